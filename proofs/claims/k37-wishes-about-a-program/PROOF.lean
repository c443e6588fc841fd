import PyProof.Rows.All
import Wide.All
import OpenK.AllK
import Wide.FinOn
import HandS.ForMost
import HandS.ForExc
import HandS.Wide
import HandS.IsInst
import HandS.Flow
import HandS.CallSlots
import HandS.ExcIs
import HandS.Strs
import HandS.TupAny
import HandS.TupMul
import KE.GoesEnum
import HandS.Conv
import HandS.Deep
import HandS.ExcField
import HandS.Style
import HandS.Ends
import HandS.SortRule
import HandS.SortInts
import HandS.Dict
import HandS.DictComp
import HandS.Defaults
import HandS.MakeKwOnly
import HandS.TryOnly
import HandS.SetFor
import PyProof.P3In
import HandS.More
import PyProof.ReprRoads
import KE.KExcStr
import PyProof.ExcRepr
import PyProof.ReprReads
import HandS.TryMany
import HandS.ExcInit
import HandS.ClsMeth
import HandS.ExcValue
import HandS.LawCells
import HandS.JoinGen
import HandS.GenList
import KE.SortData
import HandS.Text
import HandS.StrMore
import HandS.RaiseMore
import HandS.Steps
import HandS.Iter
import PyProof.StrOps2
import PyProof.Rows.StrMul
import HandS.Property
import HandS.Small
import KE.KFromBytes
import KE.KOpsOwn
import HandS.ExcSuper
import HandS.FStr
import HandS.Star
import KE.DataCmp
import PySem.Challenge.RW_hoursmeant_k37_wishes_about_a_program
import PyProof.ReprLen
import PyProof.FitsInt
import PyProof.StrLawsChain
import KE.KIntText
set_option Elab.async false
set_option linter.all false
set_option maxRecDepth 100000
set_option maxHeartbeats 4000000
noncomputable section
set_option Elab.async false in
set_option maxRecDepth 100000 in
set_option maxHeartbeats 0 in
open PySem PySem.W PyProof.Rows in
open_top hd0 for PySem.Challenge.rw_hoursmeant_k37_wishes_about_a_program
namespace Dm
open PySem L2
open PySem.W (Frag)
inductive D where
  | non | bl (b : Bool) | int (i : Int) | str (x : Str)
  | tup (xs : List D) | lst (xs : List D)
  | cell (n : Nat) | glo (x : Str)
  | exn (c : Str) (fs : List (Str × Int))
inductive Cell where
  | lst (xs : List D)
  | obj (c : Str) (fs : List (Str × D))
  | exc (c : Str) (fs : List (Str × D))
  | dic (kvs : List (Key × D))
  | set (xs : List Int)
abbrev Sto := List Cell
inductive Res (α : Type) where
  | ok (a : α) (S : Sto)
  | exc (c : Str) (fs : List (Str × D)) (S : Sto)
  | bad
noncomputable def Res.bind {α β : Type} (r : Res α) (f : α → Sto → Res β) : Res β := match r with
  | .ok a S => f a S
  | .exc c fs S => .exc c fs S
  | .bad => .bad
abbrev Rho := List (Option D)
abbrev ME := Rho → Sto → Res D
abbrev MA := Rho → Sto → Res (List D)
inductive Out where
  | nx (ρ : Rho) (S : Sto) | rt (d : D) (S : Sto) | bk (ρ : Rho) (S : Sto) | ct (ρ : Rho) (S : Sto)
  | exc (c : Str) (fs : List (Str × D)) (ρ : Rho) (S : Sto) | bad
abbrev MS := Rho → Sto → Out
noncomputable def KT (K : Frag) (a : Addr) (xs : List V) : Prop := ∃ (o : Obj) (its : Array Value) (n : Nat), K.lookup a = some o ∧ o.cls = .type "tuple" ∧ o.dict = none ∧ o.data = .seq its n ∧ its.size ≤ sizeLine ∧ Vals xs its.toList
noncomputable def KL (K : Frag) (a : Addr) (xs : List V) : Prop := ∃ (o : Obj) (its : Array Value) (n : Nat), K.lookup a = some o ∧ o.cls = .type "list" ∧ o.dict = none ∧ o.data = .seq its n ∧ its.size ≤ sizeLine ∧ Vals xs its.toList
structure Fx where
  K : Frag
  mg : Str → Option Value
  ξ : List Addr
  w : World
abbrev fx (X : Cx) (ξ : List Addr) : Fx := ⟨X.K, X.mg, ξ, X.w⟩
noncomputable def RdT (H : Hp) (a : Addr) (xs : List V) : Prop := ∃ o : Obj, o.dict = none ∧ H a = some (.frz o (.tup xs))
noncomputable def FzT (F : Fx) (μ : List Addr) (H : Hp) (a : Addr) (xs : List V) : Prop := (RdT H a xs ∧ a ∉ μ ∧ a ∉ F.ξ) ∨ KT F.K a xs
noncomputable def FzL (F : Fx) (μ : List Addr) (H : Hp) (a : Addr) (xs : List V) : Prop := (Rd H a (.lst xs) ∧ a ∉ μ ∧ a ∉ F.ξ) ∨ KL F.K a xs
theorem FzT.sq {F : Fx} {μ : List Addr} {H : Hp} {a : Addr} {xs : List V} (h : FzT F μ H a xs) : SqT F.K H a xs := h.imp (fun z => let ⟨o, _, e⟩ := z.1; .inr ⟨o, e⟩) (fun ⟨o, its, n, e1, e2, _, e3⟩ => ⟨o, its, n, e1, e2, e3⟩)
theorem FzL.sq {F : Fx} {μ : List Addr} {H : Hp} {a : Addr} {xs : List V} (h : FzL F μ H a xs) : SqL F.K H a xs := h.imp (·.1) id
noncomputable def ExV (cls : Value) (d : Option Addr) (a : Addr) : HO := .ext fun h => ∃ (oe : Obj) (vs : Array Value), h.get? a = some oe ∧ Zc cls d oe ∧ oe.data = .fields vs
noncomputable def intFs (ns : List (Str × Int)) : List (Str × V) := ns.map fun p => (p.1, .int p.2)
noncomputable def PlX (K : Frag) (cls : Value) : Prop := ∃ D : Addr, cls = .ref D ∧ ExcC K D ∧ ∀ x : String, x ∈ ["tuple", "list", "int", "str", "bool", "dict"] → PySem.W.kitOne K (.ref D) (.type x) = some false
structure ClsK (K : Frag) (mg : Str → Option Value) (c : Str) (cls : Value) : Prop where
  mg : mg c = some cls
  pl : PlX K cls
noncomputable def ExT (cls : Value) (d : Option Addr) (t : Addr) (a : Addr) : HO := .ext fun h => ∃ (oe : Obj) (vs : Array Value), h.get? a = some oe ∧ Zc cls d oe ∧ oe.data = .fields vs ∧ vs[0]? = some (.ref t)
noncomputable def IsX (H : Hp) (a : Addr) (cls : Value) (d : Option Addr) : Prop := H a = some (ExV cls d a) ∨ ∃ t, H a = some (ExT cls d t a)
theorem IsX.obj {P : Program} {w : World} {H : Hp} {h : Heap} {a : Addr} {cls : Value} {d : Option Addr} (x : IsX H a cls d) (k : HOk P w H h) : ∃ (oe : Obj) (vs : Array Value), h.get? a = some oe ∧ Zc cls d oe ∧ oe.data = .fields vs := by
  rcases x with x | ⟨t, x⟩
  · have z : ObjOk P w H h a (.ext fun h => ∃ (oe : Obj) (vs : Array Value), h.get? a = some oe ∧ Zc cls d oe ∧ oe.data = .fields vs) := k a _ x
    exact z.1
  · have z : ObjOk P w H h a (.ext fun h => ∃ (oe : Obj) (vs : Array Value), h.get? a = some oe ∧ Zc cls d oe ∧ oe.data = .fields vs ∧ vs[0]? = some (.ref t)) := k a _ x
    obtain ⟨oe, vs, h1, h2, h3, _⟩ := z.1
    exact ⟨oe, vs, h1, h2, h3⟩
noncomputable def FzO (F : Fx) (μ : List Addr) (H : Hp) (a : Addr) (c : Str) (ns : List (Str × Int)) : Prop := ∃ cls dd, ClsK F.K F.mg c cls ∧ (H a = some (ExV cls dd a) ∧ a ∉ μ ∧ a ∉ F.ξ) ∧ ((ns = [] ∧ dd = none) ∨ ∃ d fs, dd = some d ∧ H d = some (.xd fs) ∧ (ns = [] ∨ fs = intFs ns) ∧ d ∉ μ ∧ d ∉ F.ξ)
noncomputable def mkd (m : Str) : List (Str × Int) := [(m, 0), (m, 1)]
noncomputable def isMkd : List (Str × Int) → Bool
  | [p, q] => p.1 == q.1 && (p.2 == 0 && q.2 == 1)
  | _ => false
noncomputable def FzM (F : Fx) (μ : List Addr) (H : Hp) (a : Addr) (c : Str) (m : Str) : Prop := ∃ cls dd t, ClsK F.K F.mg c cls ∧ (H a = some (ExT cls dd t a) ∧ a ∉ μ ∧ a ∉ F.ξ) ∧ (H t = some (.tup [.str m]) ∧ t ∉ μ ∧ t ∉ F.ξ) ∧ (dd = none ∨ ∃ d fs, dd = some d ∧ H d = some (.xd fs) ∧ d ∉ μ ∧ d ∉ F.ξ)
noncomputable def FzX (F : Fx) (μ : List Addr) (H : Hp) (a : Addr) (c : Str) (ns : List (Str × Int)) : Prop := (isMkd ns = false ∧ FzO F μ H a c ns) ∨ ∃ m, ns = mkd m ∧ FzM F μ H a c m
theorem FzX.core {F : Fx} {μ : List Addr} {H : Hp} {a : Addr} {c : Str} {ns : List (Str × Int)} (h : FzX F μ H a c ns) : ∃ cls dd, ClsK F.K F.mg c cls ∧ (IsX H a cls dd ∧ a ∉ μ ∧ a ∉ F.ξ) ∧ ((True ∧ dd = none) ∨ ∃ d fs, dd = some d ∧ H d = some (.xd fs) ∧ d ∉ μ ∧ d ∉ F.ξ) := by
  rcases h with ⟨_, cls, dd, e, ⟨h1, h2, h3⟩, h4⟩ | ⟨m, _, cls, dd, t, e, ⟨h1, h2, h3⟩, _, h4⟩
  · refine ⟨cls, dd, e, ⟨.inl h1, h2, h3⟩, ?_⟩
    rcases h4 with ⟨_, h4⟩ | ⟨d, fs, q1, q2, _, q3⟩
    · exact .inl ⟨trivial, h4⟩
    · exact .inr ⟨d, fs, q1, q2, q3⟩
  · refine ⟨cls, dd, e, ⟨.inr ⟨t, h1⟩, h2, h3⟩, ?_⟩
    rcases h4 with h4 | h4
    · exact .inl ⟨trivial, h4⟩
    · exact .inr h4
structure PlO (K : Frag) (C : Addr) : Prop where
  cl : Cls K C
  ha : PySem.W.findIn K (.ref C) "__class__" = some (some (.builtin "object.__class__"))
  hn : PySem.W.specialIn K (.builtin "object.__class__") "__get__" = some (some (.builtin "getset_descriptor.__get__"))
  tk : PySem.W.takesIn K (.builtin "object.__class__") = some true
  hm : PySem.W.mroIn K C (.type "object") = some true
  no : ∀ x : String, x ∈ ["tuple", "list", "int", "str", "bool", "dict"] → PySem.W.kitOne K (.ref C) (.type x) = some false
mutual
inductive RD (F : Fx) (μ : List Addr) (H : Hp) : V → D → Prop
  | non : RD F μ H .non .non
  | bl (b : Bool) : RD F μ H (.bl b) (.bl b)
  | int (i : Int) : RD F μ H (.int i) (.int i)
  | str (x : Str) : RD F μ H (.str x) (.str x)
  | tup {a : Addr} {xs : List V} {ds : List D} : FzT F μ H a xs → RDs F μ H xs ds → RD F μ H (.ref a) (.tup ds)
  | lst {a : Addr} {xs : List V} {ds : List D} : FzL F μ H a xs → RDs F μ H xs ds → RD F μ H (.ref a) (.lst ds)
  | cell {a : Addr} {n : Nat} : μ[n]? = some a → RD F μ H (.ref a) (.cell n)
  | glo {a : Addr} {x : Str} : F.mg x = some (.ref a) → RD F μ H (.ref a) (.glo x)
  | exn {a : Addr} {c : Str} {ns : List (Str × Int)} : FzX F μ H a c ns → RD F μ H (.ref a) (.exn c ns)
inductive RDs (F : Fx) (μ : List Addr) (H : Hp) : List V → List D → Prop
  | nil : RDs F μ H [] []
  | cons {v : V} {vs : List V} {d : D} {ds : List D} : RD F μ H v d → RDs F μ H vs ds → RDs F μ H (v :: vs) (d :: ds)
end
structure Up (μ : List Addr) (H : Hp) (μ' : List Addr) (H' : Hp) : Prop where
  pre : ∃ ν, μ' = μ ++ ν
  new : ∀ a, a ∈ μ' → a ∉ μ → H a = none
  keep : ∀ a o, H a = some o → a ∉ μ → H' a = some o
section
variable {F : Fx} {μ μ' μ1 μ2 : List Addr} {H H' H1 H2 : Hp}
theorem Up.refl : Up μ H μ H := ⟨⟨[], (List.append_nil _).symm⟩, fun _ h n => absurd h n, fun _ _ h _ => h⟩
theorem Up.notin (u : Up μ H μ' H') {a : Addr} {o : HO} (h : H a = some o) (n : a ∉ μ) : a ∉ μ' := fun z => by
  have q := u.new a z n
  rw [h] at q; cases q
theorem Up.trans (u : Up μ H μ1 H1) (v : Up μ1 H1 μ2 H2) : Up μ H μ2 H2 := by
  obtain ⟨ν, e⟩ := u.pre
  obtain ⟨ν', e'⟩ := v.pre
  refine ⟨⟨ν ++ ν', by rw [e', e, List.append_assoc]⟩, fun a h n => ?_, fun a o h n => v.keep a o (u.keep a o h n) (u.notin h n)⟩
  by_cases h1 : a ∈ μ1
  · exact u.new a h1 n
  · have q := v.new a h h1
    cases z : H a with
    | none => rfl
    | some o =>
      rw [u.keep a o z n] at q; cases q
theorem Up.back (u : Up μ H μ' H') {p : Addr} (h : H' p = none) (n : p ∉ μ := by assumption) : H p = none := by
  cases z : H p with
  | none => rfl
  | some o =>
    rw [u.keep p o z n] at h; cases h
theorem Up.mem (u : Up μ H μ' H') {a : Addr} (h : a ∈ μ) : a ∈ μ' := by
  obtain ⟨ν, e⟩ := u.pre
  rw [e]
  exact List.mem_append_left _ h
theorem Up.get (u : Up μ H μ' H') {n : Nat} {a : Addr} (h : μ[n]? = some a) : μ'[n]? = some a := by
  obtain ⟨ν, e⟩ := u.pre
  rw [e, List.getElem?_append_left (List.getElem?_eq_some_iff.mp h).1]
  exact h
theorem FzT.up (u : Up μ H μ' H') {a : Addr} {xs : List V} (h : FzT F μ H a xs) : FzT F μ' H' a xs := by
  rcases h with ⟨⟨o, d, h⟩, n, nx⟩ | h
  · exact .inl ⟨⟨o, d, u.keep _ _ h n⟩, u.notin h n, nx⟩
  · exact .inr h
theorem FzL.up (u : Up μ H μ' H') {a : Addr} {xs : List V} (h : FzL F μ H a xs) : FzL F μ' H' a xs := by
  rcases h with ⟨h, n, nx⟩ | h
  · rcases h with h | ⟨o, h⟩
    · exact .inl ⟨.inl (u.keep _ _ h n), u.notin h n, nx⟩
    · exact .inl ⟨.inr ⟨o, u.keep _ _ h n⟩, u.notin h n, nx⟩
  · exact .inr h
theorem FzO.up (u : Up μ H μ' H') {a : Addr} {c : Str} {ns : List (Str × Int)} (h : FzO F μ H a c ns) : FzO F μ' H' a c ns := by
  obtain ⟨cls, dd, e, ⟨h1, h2, h3⟩, h4⟩ := h
  refine ⟨cls, dd, e, ⟨u.keep _ _ h1 h2, u.notin h1 h2, h3⟩, h4.imp id ?_⟩
  rintro ⟨d, fs, e2, h5, hf, h6, h7⟩
  exact ⟨d, fs, e2, u.keep _ _ h5 h6, hf, u.notin h5 h6, h7⟩
theorem FzM.up (u : Up μ H μ' H') {a : Addr} {c : Str} {m : Str} (h : FzM F μ H a c m) : FzM F μ' H' a c m := by
  obtain ⟨cls, dd, t, e, ⟨h1, h2, h3⟩, ⟨t1, t2, t3⟩, h4⟩ := h
  refine ⟨cls, dd, t, e, ⟨u.keep _ _ h1 h2, u.notin h1 h2, h3⟩, ⟨u.keep _ _ t1 t2, u.notin t1 t2, t3⟩, h4.imp id ?_⟩
  rintro ⟨d, fs, e2, h5, h6, h7⟩
  exact ⟨d, fs, e2, u.keep _ _ h5 h6, u.notin h5 h6, h7⟩
theorem FzX.up (u : Up μ H μ' H') {a : Addr} {c : Str} {ns : List (Str × Int)} (h : FzX F μ H a c ns) : FzX F μ' H' a c ns := h.imp (fun z => ⟨z.1, z.2.up u⟩) fun ⟨m, e, z⟩ => ⟨m, e, z.up u⟩
mutual
theorem RD.up (u : Up μ H μ' H') : ∀ {v : V} (d : D), RD F μ H v d → RD F μ' H' v d
  | _, .non, h => by cases h; exact .non
  | _, .bl b, h => by cases h; exact .bl b
  | _, .int i, h => by cases h; exact .int i
  | _, .str x, h => by cases h; exact .str x
  | _, .tup ds, h => by
    cases h with
    | tup f r => exact .tup (f.up u) (RDs.up u ds r)
  | _, .lst ds, h => by
    cases h with
    | lst f r => exact .lst (f.up u) (RDs.up u ds r)
  | _, .cell n, h => by
    cases h with
    | cell e => exact .cell (u.get e)
  | _, .glo x, h => by
    cases h with
    | glo e => exact .glo e
  | _, .exn c ns, h => by
    cases h with
    | exn f => exact .exn (f.up u)
theorem RDs.up (u : Up μ H μ' H') : ∀ {vs : List V} (ds : List D), RDs F μ H vs ds → RDs F μ' H' vs ds
  | _, [], h => by cases h; exact .nil
  | _, d :: ds, h => by
    cases h with
    | cons a b => exact .cons (RD.up u d a) (RDs.up u ds b)
end
theorem RDs.length : ∀ {vs : List V} {ds : List D}, RDs F μ H vs ds → vs.length = ds.length
  | _, [], h => by cases h; rfl
  | _, d :: ds, h => by
    cases h with
    | cons a b => rw [List.length_cons, List.length_cons, RDs.length b]
theorem RDs.get : ∀ {vs : List V} {ds : List D}, RDs F μ H vs ds → ∀ {i : Nat} {d : D}, ds[i]? = some d → ∃ v, vs[i]? = some v ∧ RD F μ H v d
  | _, [], _, i, d, e => by simp at e
  | _, d0 :: ds, h, 0, d, e => by
    cases h with
    | cons a b =>
      simp at e; subst e
      exact ⟨_, rfl, a⟩
  | _, d0 :: ds, h, i + 1, d, e => by
    cases h with
    | cons a b =>
      obtain ⟨v, h1, h2⟩ := RDs.get b (i := i) (d := d) (by simpa using e)
      exact ⟨v, by simpa using h1, h2⟩
theorem RDs.append : ∀ {vs ws : List V} {ds es : List D}, RDs F μ H vs ds → RDs F μ H ws es → RDs F μ H (vs ++ ws) (ds ++ es)
  | _, _, [], _, h, k => by cases h; exact k
  | _, _, d :: ds, _, h, k => by
    cases h with
    | cons a b => exact .cons a (RDs.append b k)
theorem RDs.take : ∀ {vs : List V} {ds : List D} (n : Nat), RDs F μ H vs ds → RDs F μ H (vs.take n) (ds.take n)
  | _, _, 0, _ => .nil
  | _, [], _ + 1, h => by cases h; exact .nil
  | _, d :: ds, n + 1, h => by
    cases h with
    | cons a b => exact .cons a (RDs.take n b)
theorem RDs.drop : ∀ {vs : List V} {ds : List D} (n : Nat), RDs F μ H vs ds → RDs F μ H (vs.drop n) (ds.drop n)
  | _, _, 0, h => h
  | _, [], _ + 1, h => by cases h; exact .nil
  | _, d :: ds, n + 1, h => by
    cases h with
    | cons a b => exact RDs.drop n b
theorem RDs.reverse : ∀ {vs : List V} {ds : List D}, RDs F μ H vs ds → RDs F μ H vs.reverse ds.reverse
  | _, [], h => by cases h; exact .nil
  | _, d :: ds, h => by
    cases h with
    | cons a b =>
      rw [List.reverse_cons, List.reverse_cons]
      exact RDs.append (RDs.reverse b) (.cons a .nil)
theorem RDs.set : ∀ {vs : List V} {ds : List D} (n : Nat) {v : V} {d : D}, RDs F μ H vs ds → RD F μ H v d → RDs F μ H (vs.set n v) (ds.set n d)
  | _, [], n, _, _, h, _ => by cases h; exact .nil
  | _, d0 :: ds, 0, _, _, h, k => by
    cases h with
    | cons a b => exact .cons k b
  | _, d0 :: ds, n + 1, _, _, h, k => by
    cases h with
    | cons a b => exact .cons a (RDs.set n b k)
end
noncomputable def FsR (F : Fx) (μ : List Addr) (H : Hp) (vfs : List (Str × V)) (fs : List (Str × D)) : Prop := Paired (fun p q => p.1 = q.1 ∧ RD F μ H p.2 q.2) vfs fs
noncomputable def KvR (F : Fx) (μ : List Addr) (H : Hp) (vk : List (Key × V)) (kvs : List (Key × D)) : Prop := Paired (fun p q => p.1 = q.1 ∧ RD F μ H p.2 q.2) vk kvs
theorem FsR.up {F : Fx} {μ μ' : List Addr} {H H' : Hp} (u : Up μ H μ' H') {vfs : List (Str × V)} {fs : List (Str × D)} (h : FsR F μ H vfs fs) : FsR F μ' H' vfs fs :=
  Paired.mapP h fun _ _ z => ⟨z.1, z.2.up u⟩
theorem KvR.up {F : Fx} {μ μ' : List Addr} {H H' : Hp} (u : Up μ H μ' H') {vfs : List (Key × V)} {fs : List (Key × D)} (h : KvR F μ H vfs fs) : KvR F μ' H' vfs fs :=
  Paired.mapP h fun _ _ z => ⟨z.1, z.2.up u⟩
noncomputable def CellOk (F : Fx) (μ : List Addr) (H : Hp) (a : Addr) : Cell → Prop
  | .lst ds => ∃ xs, H a = some (.lst xs) ∧ RDs F μ H xs ds
  | .obj c fs => ∃ C dx vfs, H a = some (.ins C dx vfs) ∧ F.mg c = some (.ref C) ∧ FsR F μ H vfs fs ∧ PlO F.K C
  | .dic kvs => ∃ vk, H a = some (.dK vk) ∧ KvR F μ H vk kvs
  | .exc _ _ => False
  | .set ns => ns.Nodup ∧ H a = some (SetO F.w a (fun j => decide (j ∈ ns)) ns.length)
structure RS (F : Fx) (μ : List Addr) (H : Hp) (S : Sto) : Prop where
  len : μ.length = S.length
  nd : μ.Nodup
  at_ : ∀ (n : Nat) (a : Addr) (c : Cell), μ[n]? = some a → S[n]? = some c → CellOk F μ H a c
  xi : ∀ a, a ∈ F.ξ → a ∉ μ ∧ ∃ o, H a = some o
structure RG (F : Fx) (μ : List Addr) (H : Hp) (σ : St) (ρ : Rho) : Prop where
  len : σ.length = ρ.length
  at_ : ∀ (i : Nat) (d : D), ρ[i]? = some (some d) → ∃ v, σ[i]? = some (some v) ∧ RD F μ H v d
noncomputable def XR (F : Fx) (μ : List Addr) (H : Hp) (cls : Value) (dd : Option Addr) (c : Str) (fs : List (Str × D)) : Prop :=
  F.mg c = some cls ∧ ((fs = [] ∧ dd = none) ∨ ∃ d vfs, dd = some d ∧ H d = some (.xd vfs) ∧ d ∉ μ ∧ d ∉ F.ξ ∧ FsR F μ H vfs fs)
section
variable {F : Fx} {μ μ' μ1 : List Addr} {H H' H1 : Hp} {S S' S1 : Sto} {σ : St} {ρ : Rho}
theorem RG.up (u : Up μ H μ' H') (g : RG F μ H σ ρ) : RG F μ' H' σ ρ := ⟨g.len, fun i d e => by
  obtain ⟨v, h, r⟩ := g.at_ i d e
  exact ⟨v, h, r.up u⟩⟩
theorem RG.set {v : V} {d : D} (i : Nat) (g : RG F μ H σ ρ) (r : RD F μ H v d) : RG F μ H (σ.set i (some v)) (ρ.set i (some d)) := ⟨by rw [List.length_set, List.length_set, g.len], fun j d' e => by
  by_cases hj : i = j
  · subst hj
    by_cases hl : i < ρ.length
    · rw [List.getElem?_set_self hl] at e; cases e
      exact ⟨v, List.getElem?_set_self (by rw [g.len]; exact hl), r⟩
    · rw [List.getElem?_eq_none (by simpa using hl)] at e; cases e
  · rw [List.getElem?_set_ne hj] at e
    obtain ⟨w, h, r'⟩ := g.at_ j d' e
    exact ⟨w, by rw [List.getElem?_set_ne hj]; exact h, r'⟩⟩
theorem RG.forget {σ' : St} (i : Nat) (g : RG F μ H σ ρ) : RG F μ H (σ.set i none) (ρ.set i none) := ⟨by rw [List.length_set, List.length_set, g.len], fun j d' e => by
  by_cases hj : i = j
  · subst hj
    by_cases hl : i < ρ.length
    · rw [List.getElem?_set_self hl] at e; cases e
    · rw [List.getElem?_eq_none (by simpa using hl)] at e; cases e
  · rw [List.getElem?_set_ne hj] at e
    obtain ⟨w, h, r'⟩ := g.at_ j d' e
    exact ⟨w, by rw [List.getElem?_set_ne hj]; exact h, r'⟩⟩
theorem Up.fresh {p : Addr} {o : HO} (h : H p = none) : Up μ H μ (upd H p o) := ⟨⟨[], (List.append_nil _).symm⟩, fun _ h n => absurd h n, fun a u e _ => by rw [upd_ne (ne_of_none e h)]; exact e⟩
theorem CellOk.up (u : Up μ H μ' H') {a : Addr} {c : Cell} (e : H' a = H a) (h : CellOk F μ H a c) : CellOk F μ' H' a c := by
  cases c with
  | lst ds =>
    obtain ⟨xs, h1, h2⟩ := h
    exact ⟨xs, e.trans h1, h2.up u⟩
  | obj c fs =>
    obtain ⟨C, dx, vfs, h1, h2, h3⟩ := h
    exact ⟨C, dx, vfs, e.trans h1, h2, h3.1.up u, h3.2⟩
  | dic kvs =>
    obtain ⟨vk, h1, h2⟩ := h
    exact ⟨vk, e.trans h1, h2.up u⟩
  | exc _ _ => exact h.elim
  | set ns => exact ⟨h.1, e.trans h.2⟩
theorem CellOk.hasO {a : Addr} {c : Cell} (h : CellOk F μ H a c) : ∃ o, H a = some o := by
  cases c with
  | lst ds =>
    obtain ⟨xs, h1, h2⟩ := h
    exact ⟨_, h1⟩
  | obj c fs =>
    obtain ⟨C, dx, vfs, h1, _⟩ := h
    exact ⟨_, h1⟩
  | dic kvs =>
    obtain ⟨vk, h1, h2⟩ := h
    exact ⟨_, h1⟩
  | exc _ _ => exact h.elim
  | set ns => exact ⟨_, h.2⟩
theorem RS.there (r : RS F μ H S) {n : Nat} {a : Addr} (h : μ[n]? = some a) : ∃ c, S[n]? = some c := by
  have hn := (List.getElem?_eq_some_iff.mp h).1
  rw [r.len] at hn
  exact ⟨S[n], List.getElem?_eq_getElem hn⟩
theorem RS.hasO (r : RS F μ H S) {a : Addr} (h : a ∈ μ) : ∃ o, H a = some o := by
  obtain ⟨n, e⟩ := List.getElem?_of_mem h
  obtain ⟨c, hc⟩ := r.there e
  exact (r.at_ n a c e hc).hasO
theorem RS.out (r : RS F μ H S) {p : Addr} (h : H p = none) : p ∉ μ := fun z => by
  obtain ⟨o, e⟩ := r.hasO z
  rw [h] at e; cases e
theorem RS.outX (r : RS F μ H S) {p : Addr} (h : H p = none) : p ∉ F.ξ := fun z => by
  obtain ⟨_, o, e⟩ := r.xi p z
  rw [h] at e; cases e
theorem RS.fresh (r : RS F μ H S) {p : Addr} {o : HO} (h : H p = none) : RS F μ (upd H p o) S := ⟨r.len, r.nd, fun n a c e1 e2 => by
  have q := r.at_ n a c e1 e2
  refine q.up (.fresh h) (upd_ne ?_)
  intro z
  subst z
  obtain ⟨o', e⟩ := q.hasO
  rw [h] at e; exact (nomatch e), fun a ha => ⟨(r.xi a ha).1, by
    obtain ⟨o', e⟩ := (r.xi a ha).2
    exact ⟨o', by rw [upd_ne (ne_of_none e h)]; exact e⟩⟩⟩
theorem alloc_at {p : Addr} : (μ ++ [p])[μ.length]? = some p := by rw [List.getElem?_append_right (Nat.le_refl _), Nat.sub_self]; rfl
theorem Up.write {n : Nat} {a : Addr} {o : HO} (h : μ[n]? = some a) : Up μ H μ (upd H a o) := ⟨⟨[], (List.append_nil _).symm⟩, fun _ h n => absurd h n, fun b u e nb => by
  rw [upd_ne]
  · exact e
  · rintro rfl
    exact nb (List.mem_of_getElem? h)⟩
theorem RS.write (r : RS F μ H S) {n : Nat} {a : Addr} {o : HO} {c : Cell} (h : μ[n]? = some a) (hc : CellOk F μ (upd H a o) a c) : RS F μ (upd H a o) (S.set n c) := by
  refine ⟨by rw [List.length_set, r.len], r.nd, fun m b c' e1 e2 => ?_, fun b hb => ⟨(r.xi b hb).1, by
    obtain ⟨o', e⟩ := (r.xi b hb).2
    refine ⟨o', ?_⟩
    rw [upd_ne]
    · exact e
    · rintro rfl
      exact (r.xi b hb).1 (List.mem_of_getElem? h)⟩⟩
  by_cases hm : n = m
  · subst hm
    rw [h] at e1; cases e1
    have hl : n < S.length := by rw [← r.len]; exact (List.getElem?_eq_some_iff.mp h).1
    rw [List.getElem?_set_self hl] at e2; cases e2
    exact hc
  · rw [List.getElem?_set_ne hm] at e2
    refine (r.at_ m b c' e1 e2).up (.write h) (upd_ne ?_)
    rintro rfl
    have h1 := (List.getElem?_eq_some_iff.mp h)
    have h2 := (List.getElem?_eq_some_iff.mp e1)
    exact hm ((List.getElem_inj r.nd).mp (h1.2.trans h2.2.symm))
noncomputable def Fx.hold (F : Fx) (p : Addr) : Fx := ⟨F.K, F.mg, p :: F.ξ, F.w⟩
theorem FzT.free {p a : Addr} {xs : List V} (h : FzT (F.hold p) μ H a xs) : FzT F μ H a xs := h.imp (fun z => ⟨z.1, z.2.1, fun q => z.2.2 (List.mem_cons_of_mem _ q)⟩) id
theorem FzL.free {p a : Addr} {xs : List V} (h : FzL (F.hold p) μ H a xs) : FzL F μ H a xs := h.imp (fun z => ⟨z.1, z.2.1, fun q => z.2.2 (List.mem_cons_of_mem _ q)⟩) id
theorem FzO.free {p a : Addr} {c : Str} {ns : List (Str × Int)} (h : FzO (F.hold p) μ H a c ns) : FzO F μ H a c ns := by
  obtain ⟨cls, dd, e, ⟨h1, h2, h3⟩, h4⟩ := h
  refine ⟨cls, dd, e, ⟨h1, h2, fun q => h3 (List.mem_cons_of_mem _ q)⟩, h4.imp id ?_⟩
  rintro ⟨d, fs, e2, h5, hf, h6, h7⟩
  exact ⟨d, fs, e2, h5, hf, h6, fun q => h7 (List.mem_cons_of_mem _ q)⟩
theorem FzM.free {p a : Addr} {c : Str} {m : Str} (h : FzM (F.hold p) μ H a c m) : FzM F μ H a c m := by
  obtain ⟨cls, dd, t, e, ⟨h1, h2, h3⟩, ⟨t1, t2, t3⟩, h4⟩ := h
  refine ⟨cls, dd, t, e, ⟨h1, h2, fun q => h3 (List.mem_cons_of_mem _ q)⟩, ⟨t1, t2, fun q => t3 (List.mem_cons_of_mem _ q)⟩, h4.imp id ?_⟩
  rintro ⟨d, fs, e2, h5, h6, h7⟩
  exact ⟨d, fs, e2, h5, h6, fun q => h7 (List.mem_cons_of_mem _ q)⟩
theorem FzX.free {p a : Addr} {c : Str} {ns : List (Str × Int)} (h : FzX (F.hold p) μ H a c ns) : FzX F μ H a c ns := h.imp (fun z => ⟨z.1, z.2.free⟩) fun ⟨m, e, z⟩ => ⟨m, e, z.free⟩
mutual
theorem RD.free {p : Addr} : ∀ {v : V} (d : D), RD (F.hold p) μ H v d → RD F μ H v d
  | _, .non, h => by cases h; exact .non
  | _, .bl b, h => by cases h; exact .bl b
  | _, .int i, h => by cases h; exact .int i
  | _, .str x, h => by cases h; exact .str x
  | _, .tup ds, h => by
    cases h with
    | tup f r => exact .tup f.free (RDs.free ds r)
  | _, .lst ds, h => by
    cases h with
    | lst f r => exact .lst f.free (RDs.free ds r)
  | _, .cell n, h => by
    cases h with
    | cell e => exact .cell e
  | _, .glo x, h => by
    cases h with
    | glo e => exact .glo e
  | _, .exn c ns, h => by
    cases h with
    | exn f => exact .exn f.free
theorem RDs.free {p : Addr} : ∀ {vs : List V} (ds : List D), RDs (F.hold p) μ H vs ds → RDs F μ H vs ds
  | _, [], h => by cases h; exact .nil
  | _, d :: ds, h => by
    cases h with
    | cons a b => exact .cons (RD.free d a) (RDs.free ds b)
end
theorem FzT.holds {p a : Addr} {o : HO} {xs : List V} (hp : H p = none) (h : FzT F μ H a xs) : FzT (F.hold p) μ (upd H p o) a xs := by
  rcases h with ⟨⟨o, d, h⟩, n, nx⟩ | h
  · have hne : a ≠ p := ne_of_none h hp
    exact .inl ⟨⟨o, d, by rw [upd_ne hne]; exact h⟩, n, fun q => (List.mem_cons.mp q).elim hne nx⟩
  · exact .inr h
theorem FzL.holds {p a : Addr} {o : HO} {xs : List V} (hp : H p = none) (h : FzL F μ H a xs) : FzL (F.hold p) μ (upd H p o) a xs := by
  rcases h with ⟨h, n, nx⟩ | h
  · have hne : a ≠ p := by
      rcases h with h | ⟨o, h⟩ <;> exact ne_of_none h hp
    refine .inl ⟨?_, n, fun q => (List.mem_cons.mp q).elim hne nx⟩
    rcases h with h | ⟨o, h⟩
    · exact .inl (by rw [upd_ne hne]; exact h)
    · exact .inr ⟨o, by rw [upd_ne hne]; exact h⟩
  · exact .inr h
theorem FzT.wr {p a : Addr} {o : HO} {xs : List V} (h : FzT (F.hold p) μ H a xs) : FzT (F.hold p) μ (upd H p o) a xs := by
  rcases h with ⟨⟨o, d, h⟩, n, nx⟩ | h
  · have hne : a ≠ p := fun z => nx (z ▸ List.mem_cons_self)
    exact .inl ⟨⟨o, d, by rw [upd_ne hne]; exact h⟩, n, nx⟩
  · exact .inr h
theorem FzL.wr {p a : Addr} {o : HO} {xs : List V} (h : FzL (F.hold p) μ H a xs) : FzL (F.hold p) μ (upd H p o) a xs := by
  rcases h with ⟨h, n, nx⟩ | h
  · have hne : a ≠ p := fun z => nx (z ▸ List.mem_cons_self)
    refine .inl ⟨?_, n, nx⟩
    rcases h with h | ⟨o, h⟩
    · exact .inl (by rw [upd_ne hne]; exact h)
    · exact .inr ⟨o, by rw [upd_ne hne]; exact h⟩
  · exact .inr h
theorem FzO.upHold {p a : Addr} {c : Str} {ns : List (Str × Int)} (u : Up μ H μ' H') (hp : H p = none) (h : FzO F μ H a c ns) : FzO (F.hold p) μ' H' a c ns := by
  obtain ⟨cls, dd, e, ⟨h1, h2, h3⟩, h4⟩ := h
  refine ⟨cls, dd, e, ⟨u.keep _ _ h1 h2, u.notin h1 h2, fun q => (List.mem_cons.mp q).elim (ne_of_none h1 hp) h3⟩, h4.imp id ?_⟩
  rintro ⟨d, fs, e2, h5, hf, h6, h7⟩
  exact ⟨d, fs, e2, u.keep _ _ h5 h6, hf, u.notin h5 h6, fun q => (List.mem_cons.mp q).elim (ne_of_none h5 hp) h7⟩
theorem FzM.upHold {p a : Addr} {c : Str} {m : Str} (u : Up μ H μ' H') (hp : H p = none) (h : FzM F μ H a c m) : FzM (F.hold p) μ' H' a c m := by
  obtain ⟨cls, dd, t, e, ⟨h1, h2, h3⟩, ⟨t1, t2, t3⟩, h4⟩ := h
  refine ⟨cls, dd, t, e, ⟨u.keep _ _ h1 h2, u.notin h1 h2, fun q => (List.mem_cons.mp q).elim (ne_of_none h1 hp) h3⟩, ⟨u.keep _ _ t1 t2, u.notin t1 t2, fun q => (List.mem_cons.mp q).elim (ne_of_none t1 hp) t3⟩, h4.imp id ?_⟩
  rintro ⟨d, fs, e2, h5, h6, h7⟩
  exact ⟨d, fs, e2, u.keep _ _ h5 h6, u.notin h5 h6, fun q => (List.mem_cons.mp q).elim (ne_of_none h5 hp) h7⟩
theorem FzX.upHold {p a : Addr} {c : Str} {ns : List (Str × Int)} (u : Up μ H μ' H') (hp : H p = none) (h : FzX F μ H a c ns) : FzX (F.hold p) μ' H' a c ns := h.imp (fun z => ⟨z.1, z.2.upHold u hp⟩) fun ⟨m, e, z⟩ => ⟨m, e, z.upHold u hp⟩
theorem FzO.holds {p a : Addr} {o : HO} {c : Str} {ns : List (Str × Int)} (hp : H p = none) (h : FzO F μ H a c ns) : FzO (F.hold p) μ (upd H p o) a c ns := by
  obtain ⟨cls, dd, e, ⟨h1, h2, h3⟩, h4⟩ := h
  refine ⟨cls, dd, e, ⟨by rw [upd_ne (ne_of_none h1 hp)]; exact h1, h2, fun q => (List.mem_cons.mp q).elim (ne_of_none h1 hp) h3⟩, h4.imp id ?_⟩
  rintro ⟨d, fs, e2, h5, hf, h6, h7⟩
  exact ⟨d, fs, e2, by rw [upd_ne (ne_of_none h5 hp)]; exact h5, hf, h6, fun q => (List.mem_cons.mp q).elim (ne_of_none h5 hp) h7⟩
theorem FzM.holds {p a : Addr} {o : HO} {c : Str} {m : Str} (hp : H p = none) (h : FzM F μ H a c m) : FzM (F.hold p) μ (upd H p o) a c m := by
  obtain ⟨cls, dd, t, e, ⟨h1, h2, h3⟩, ⟨t1, t2, t3⟩, h4⟩ := h
  refine ⟨cls, dd, t, e, ⟨by rw [upd_ne (ne_of_none h1 hp)]; exact h1, h2, fun q => (List.mem_cons.mp q).elim (ne_of_none h1 hp) h3⟩, ⟨by rw [upd_ne (ne_of_none t1 hp)]; exact t1, t2, fun q => (List.mem_cons.mp q).elim (ne_of_none t1 hp) t3⟩, h4.imp id ?_⟩
  rintro ⟨d, fs, e2, h5, h6, h7⟩
  exact ⟨d, fs, e2, by rw [upd_ne (ne_of_none h5 hp)]; exact h5, h6, fun q => (List.mem_cons.mp q).elim (ne_of_none h5 hp) h7⟩
theorem FzX.holds {p a : Addr} {o : HO} {c : Str} {ns : List (Str × Int)} (hp : H p = none) (h : FzX F μ H a c ns) : FzX (F.hold p) μ (upd H p o) a c ns := h.imp (fun z => ⟨z.1, z.2.holds hp⟩) fun ⟨m, e, z⟩ => ⟨m, e, z.holds hp⟩
theorem FzO.wr {p a : Addr} {o : HO} {c : Str} {ns : List (Str × Int)} (h : FzO (F.hold p) μ H a c ns) : FzO (F.hold p) μ (upd H p o) a c ns := by
  obtain ⟨cls, dd, e, ⟨h1, h2, h3⟩, h4⟩ := h
  have ne : ∀ {b : Addr}, b ∉ (F.hold p).ξ → b ≠ p := fun n z => n (by rw [z]; exact List.mem_cons_self)
  refine ⟨cls, dd, e, ⟨by rw [upd_ne (ne h3)]; exact h1, h2, h3⟩, h4.imp id ?_⟩
  rintro ⟨d, fs, e2, h5, hf, h6, h7⟩
  exact ⟨d, fs, e2, by rw [upd_ne (ne h7)]; exact h5, hf, h6, h7⟩
theorem FzM.wr {p a : Addr} {o : HO} {c : Str} {m : Str} (h : FzM (F.hold p) μ H a c m) : FzM (F.hold p) μ (upd H p o) a c m := by
  have ne : ∀ {b : Addr}, b ∉ (F.hold p).ξ → b ≠ p := fun n z => n (by rw [z]; exact List.mem_cons_self)
  obtain ⟨cls, dd, t, e, ⟨h1, h2, h3⟩, ⟨t1, t2, t3⟩, h4⟩ := h
  refine ⟨cls, dd, t, e, ⟨by rw [upd_ne (ne h3)]; exact h1, h2, h3⟩, ⟨by rw [upd_ne (ne t3)]; exact t1, t2, t3⟩, h4.imp id ?_⟩
  rintro ⟨d, fs, e2, h5, h6, h7⟩
  exact ⟨d, fs, e2, by rw [upd_ne (ne h7)]; exact h5, h6, h7⟩
theorem FzX.wr {p a : Addr} {o : HO} {c : Str} {ns : List (Str × Int)} (h : FzX (F.hold p) μ H a c ns) : FzX (F.hold p) μ (upd H p o) a c ns := h.imp (fun z => ⟨z.1, z.2.wr⟩) fun ⟨m, e, z⟩ => ⟨m, e, z.wr⟩
theorem FzO.asCell {p a : Addr} {c : Str} {ns : List (Str × Int)} (h : FzO (F.hold p) μ H a c ns) : FzO F (μ ++ [p]) H a c ns := by
  have no : ∀ {b : Addr}, b ∉ μ → b ∉ (F.hold p).ξ → b ∉ μ ++ [p] := fun h1 h2 q => (List.mem_append.mp q).elim h1 fun q => h2 (by rw [List.mem_singleton.mp q]; exact List.mem_cons_self)
  obtain ⟨cls, dd, e, ⟨h1, h2, h3⟩, h4⟩ := h
  refine ⟨cls, dd, e, ⟨h1, no h2 h3, fun q => h3 (List.mem_cons_of_mem _ q)⟩, h4.imp id ?_⟩
  rintro ⟨d, fs, e2, h5, hf, h6, h7⟩
  exact ⟨d, fs, e2, h5, hf, no h6 h7, fun q => h7 (List.mem_cons_of_mem _ q)⟩
theorem FzM.asCell {p a : Addr} {c : Str} {m : Str} (h : FzM (F.hold p) μ H a c m) : FzM F (μ ++ [p]) H a c m := by
  have no : ∀ {b : Addr}, b ∉ μ → b ∉ (F.hold p).ξ → b ∉ μ ++ [p] := fun h1 h2 q => (List.mem_append.mp q).elim h1 fun q => h2 (by rw [List.mem_singleton.mp q]; exact List.mem_cons_self)
  obtain ⟨cls, dd, t, e, ⟨h1, h2, h3⟩, ⟨t1, t2, t3⟩, h4⟩ := h
  refine ⟨cls, dd, t, e, ⟨h1, no h2 h3, fun q => h3 (List.mem_cons_of_mem _ q)⟩, ⟨t1, no t2 t3, fun q => t3 (List.mem_cons_of_mem _ q)⟩, h4.imp id ?_⟩
  rintro ⟨d, fs, e2, h5, h6, h7⟩
  exact ⟨d, fs, e2, h5, no h6 h7, fun q => h7 (List.mem_cons_of_mem _ q)⟩
theorem FzX.asCell {p a : Addr} {c : Str} {ns : List (Str × Int)} (h : FzX (F.hold p) μ H a c ns) : FzX F (μ ++ [p]) H a c ns := h.imp (fun z => ⟨z.1, z.2.asCell⟩) fun ⟨m, e, z⟩ => ⟨m, e, z.asCell⟩
theorem FzT.asCell {p a : Addr} {xs : List V} (h : FzT (F.hold p) μ H a xs) : FzT F (μ ++ [p]) H a xs :=
  h.imp (fun z => ⟨z.1, fun q => (List.mem_append.mp q).elim z.2.1 fun q => z.2.2 (by rw [List.mem_singleton.mp q]; exact List.mem_cons_self), fun q => z.2.2 (List.mem_cons_of_mem _ q)⟩) id
theorem FzL.asCell {p a : Addr} {xs : List V} (h : FzL (F.hold p) μ H a xs) : FzL F (μ ++ [p]) H a xs :=
  h.imp (fun z => ⟨z.1, fun q => (List.mem_append.mp q).elim z.2.1 fun q => z.2.2 (by rw [List.mem_singleton.mp q]; exact List.mem_cons_self), fun q => z.2.2 (List.mem_cons_of_mem _ q)⟩) id
theorem getl {n : Nat} {a p : Addr} (h : μ[n]? = some a) : (μ ++ [p])[n]? = some a := by
  rw [List.getElem?_append_left (List.getElem?_eq_some_iff.mp h).1]
  exact h
structure Mv (F : Fx) (μ : List Addr) (H : Hp) (F' : Fx) (μ' : List Addr) (H' : Hp) : Prop where
  t : ∀ {a : Addr} {xs : List V}, FzT F μ H a xs → FzT F' μ' H' a xs
  l : ∀ {a : Addr} {xs : List V}, FzL F μ H a xs → FzL F' μ' H' a xs
  c : ∀ {n : Nat} {a : Addr}, μ[n]? = some a → μ'[n]? = some a
  gw : (F'.mg, F'.w, F'.K) = (F.mg, F.w, F.K)
  x : ∀ {a : Addr} {c : Str} {ns : List (Str × Int)}, FzX F μ H a c ns → FzX F' μ' H' a c ns
theorem Mv.g {F F' : Fx} {μ μ' : List Addr} {H H' : Hp} (m : Mv F μ H F' μ' H') : F'.mg = F.mg := congrArg Prod.fst m.gw
theorem Mv.w {F F' : Fx} {μ μ' : List Addr} {H H' : Hp} (m : Mv F μ H F' μ' H') : F'.w = F.w := congrArg (·.2.1) m.gw
theorem Mv.k {F F' : Fx} {μ μ' : List Addr} {H H' : Hp} (m : Mv F μ H F' μ' H') : F'.K = F.K := congrArg (·.2.2) m.gw
mutual
theorem RD.mv {F' : Fx} (m : Mv F μ H F' μ' H') : ∀ {v : V} (d : D), RD F μ H v d → RD F' μ' H' v d
  | _, .non, h => by cases h; exact .non
  | _, .bl b, h => by cases h; exact .bl b
  | _, .int i, h => by cases h; exact .int i
  | _, .str x, h => by cases h; exact .str x
  | _, .tup ds, h => by
    cases h with
    | tup f r => exact .tup (m.t f) (RDs.mv m ds r)
  | _, .lst ds, h => by
    cases h with
    | lst f r => exact .lst (m.l f) (RDs.mv m ds r)
  | _, .cell n, h => by
    cases h with
    | cell e => exact .cell (m.c e)
  | _, .glo x, h => by
    cases h with
    | glo e => exact .glo (by rw [m.g]; exact e)
  | _, .exn c ns, h => by
    cases h with
    | exn f => exact .exn (m.x f)
theorem RDs.mv {F' : Fx} (m : Mv F μ H F' μ' H') : ∀ {vs : List V} (ds : List D), RDs F μ H vs ds → RDs F' μ' H' vs ds
  | _, [], h => by cases h; exact .nil
  | _, d :: ds, h => by
    cases h with
    | cons a b => exact .cons (RD.mv m d a) (RDs.mv m ds b)
end
theorem Mv.holds {p : Addr} {o : HO} (hp : H p = none) : Mv F μ H (F.hold p) μ (upd H p o) := ⟨fun h => h.holds hp, fun h => h.holds hp, fun h => h, rfl, fun h => h.holds hp⟩
theorem Mv.wr {p : Addr} {o : HO} : Mv (F.hold p) μ H (F.hold p) μ (upd H p o) := ⟨fun h => h.wr, fun h => h.wr, fun h => h, rfl, fun h => h.wr⟩
theorem Mv.asCell {p : Addr} : Mv (F.hold p) μ H F (μ ++ [p]) H := ⟨fun h => h.asCell, fun h => h.asCell, fun h => getl h, rfl, fun h => h.asCell⟩
theorem Mv.free {p : Addr} : Mv (F.hold p) μ H F μ H := ⟨fun h => h.free, fun h => h.free, fun h => h, rfl, fun h => h.free⟩
theorem CellOk.mv {F' : Fx} (m : Mv F μ H F' μ' H') {a : Addr} {c : Cell} (e : H' a = H a) (h : CellOk F μ H a c) : CellOk F' μ' H' a c := by
  cases c with
  | lst ds =>
    obtain ⟨xs, h1, h2⟩ := h
    exact ⟨xs, e.trans h1, h2.mv m⟩
  | obj c fs =>
    obtain ⟨C, dx, vfs, h1, h2, h3⟩ := h
    exact ⟨C, dx, vfs, e.trans h1, by rw [m.g]; exact h2, Paired.mapP h3.1 fun _ _ z => ⟨z.1, z.2.mv m⟩, by rw [m.k]; exact h3.2⟩
  | dic kvs =>
    obtain ⟨vk, h1, h2⟩ := h
    exact ⟨vk, e.trans h1, Paired.mapP h2 fun _ _ z => ⟨z.1, z.2.mv m⟩⟩
  | exc _ _ => exact h.elim
  | set ns => exact ⟨h.1, by rw [m.w]; exact e.trans h.2⟩
theorem RG.mv {F' : Fx} (m : Mv F μ H F' μ' H') (g : RG F μ H σ ρ) : RG F' μ' H' σ ρ := ⟨g.len, fun i d e => by
  obtain ⟨v, h, r⟩ := g.at_ i d e
  exact ⟨v, h, r.mv m⟩⟩
theorem RS.holds (r : RS F μ H S) {p : Addr} {o : HO} (hp : H p = none) : RS (F.hold p) μ (upd H p o) S := ⟨r.len, r.nd, fun n a c e1 e2 => by
  have q := r.at_ n a c e1 e2
  refine q.mv (.holds hp) (upd_ne ?_)
  rintro rfl
  obtain ⟨o', e⟩ := q.hasO
  rw [hp] at e; exact (nomatch e), fun a ha => by
  rcases List.mem_cons.mp ha with z | z
  · rw [z]; exact ⟨r.out hp, o, upd_same⟩
  · obtain ⟨h1, o', e⟩ := r.xi a z
    exact ⟨h1, o', by rw [upd_ne (ne_of_none e hp)]; exact e⟩⟩
theorem RS.wr {p : Addr} {o : HO} (r : RS (F.hold p) μ H S) : RS (F.hold p) μ (upd H p o) S := ⟨r.len, r.nd, fun n a c e1 e2 => by
  have q := r.at_ n a c e1 e2
  refine q.mv .wr (upd_ne fun z => ?_)
  rw [z] at e1
  exact (r.xi p List.mem_cons_self).1 (List.mem_of_getElem? e1), fun a ha => by
  obtain ⟨h1, o', e⟩ := r.xi a ha
  by_cases z : a = p
  · rw [z] at h1 ⊢; exact ⟨h1, o, upd_same⟩
  · exact ⟨h1, o', by rw [upd_ne z]; exact e⟩⟩
theorem RS.free {p : Addr} (r : RS (F.hold p) μ H S) : RS F μ H S := ⟨r.len, r.nd, fun n a c e1 e2 => (r.at_ n a c e1 e2).mv .free rfl, fun a ha => r.xi a (List.mem_cons_of_mem _ ha)⟩
theorem RS.asCell {p : Addr} {ds : List D} {xs : List V} (r : RS (F.hold p) μ H S) (hx : p ∉ F.ξ) (h : H p = some (.lst xs)) (q : RDs (F.hold p) μ H xs ds) : RS F (μ ++ [p]) H (S ++ [.lst ds]) := by
  have np := (r.xi p List.mem_cons_self).1
  refine ⟨by rw [List.length_append, List.length_append, r.len] <;> rfl, ?_, fun n a c' e1 e2 => ?_, fun a ha => ⟨fun z => ?_, (r.xi a (List.mem_cons_of_mem _ ha)).2⟩⟩
  · refine List.nodup_append.mpr ⟨r.nd, by simp, fun a ha b hb => ?_⟩
    rw [List.mem_singleton.mp hb]
    rintro rfl
    exact np ha
  · by_cases hn : n < μ.length
    · rw [List.getElem?_append_left hn] at e1
      rw [List.getElem?_append_left (by rw [← r.len]; exact hn)] at e2
      exact (r.at_ n a c' e1 e2).mv .asCell rfl
    · have hn' : n = μ.length := by
        have q := (List.getElem?_eq_some_iff.mp e1).1
        rw [List.length_append, List.length_singleton] at q
        omega
      subst hn'
      rw [List.getElem?_append_right (Nat.le_refl _), Nat.sub_self] at e1
      rw [List.getElem?_append_right (by rw [r.len]; exact Nat.le_refl _), r.len, Nat.sub_self] at e2
      cases e1; cases e2
      exact ⟨xs, h, q.mv .asCell⟩
  · rcases List.mem_append.mp z with z | z
    · exact (r.xi a (List.mem_cons_of_mem _ ha)).1 z
    · rw [List.mem_singleton.mp z] at ha
      exact hx ha
theorem XR.up (u : Up μ H μ' H') {cls : Value} {dd : Option Addr} {c : Str} {fs : List (Str × D)} (h : XR F μ H cls dd c fs) : XR F μ' H' cls dd c fs := by
  obtain ⟨h1, h2⟩ := h
  refine ⟨h1, h2.imp id ?_⟩
  rintro ⟨d, vfs, e, h3, h4, h6, h5⟩
  exact ⟨d, vfs, e, u.keep _ _ h3 h4, u.notin h3 h4, h6, h5.up u⟩
end
noncomputable def WR {α β : Type} (F : Fx) (rel : List Addr → Hp → β → α → Prop) (r : Res α) (Q : β → Hp → Prop) (Wx : Value → Option Addr → Hp → Prop) (μ : List Addr) (H : Hp) : Prop := match r with
  | .ok d S' => ∀ v μ' H', Up μ H μ' H' → RS F μ' H' S' → rel μ' H' v d → Q v H'
  | .exc c fs S' => ∀ cls dd μ' H', Up μ H μ' H' → RS F μ' H' S' → XR F μ' H' cls dd c fs → Wx cls dd H'
  | .bad => False
abbrev WE' (F : Fx) := WR F (fun μ H v d => RD F μ H v d)
abbrev WA' (F : Fx) := WR F (fun μ H v d => RDs F μ H v d)
noncomputable def WL' (F : Fx) (r : Res (List D)) (Q : VK) (Wx : Value → Option Addr → Hp → Prop) (μ : List Addr) (H : Hp) : Prop := match r with
  | .ok ds S' => ∀ p xs μ' H', Up μ H μ' H' → H p = none → RS (F.hold p) μ' H' S' → RDs (F.hold p) μ' H' xs ds → H' p = some (.lst xs) → Q (.ref p) H'
  | .exc c fs S' => ∀ cls dd μ' H', Up μ H μ' H' → RS F μ' H' S' → XR F μ' H' cls dd c fs → Wx cls dd H'
  | .bad => False
noncomputable def WT' (F : Fx) (r : Res D) (Q : Bool → Hp → Prop) (Wx : Value → Option Addr → Hp → Prop) (μ : List Addr) (H : Hp) : Prop := match r with
  | .ok (.bl b) S' => ∀ μ' H', Up μ H μ' H' → RS F μ' H' S' → Q b H'
  | .exc c fs S' => ∀ cls dd μ' H', Up μ H μ' H' → RS F μ' H' S' → XR F μ' H' cls dd c fs → Wx cls dd H'
  | _ => False
noncomputable def WS' (F : Fx) (r : Out) (E : Ends) (W : WX) (μ : List Addr) (H : Hp) : Prop := match r with
  | .nx ρ S => ∀ σ μ' H', Up μ H μ' H' → RS F μ' H' S → RG F μ' H' σ ρ → E.nx σ H'
  | .rt d S => ∀ v μ' H', Up μ H μ' H' → RS F μ' H' S → RD F μ' H' v d → E.rt v H'
  | .bk ρ S => ∀ σ μ' H', Up μ H μ' H' → RS F μ' H' S → RG F μ' H' σ ρ → E.bk σ H'
  | .ct ρ S => ∀ σ μ' H', Up μ H μ' H' → RS F μ' H' S → RG F μ' H' σ ρ → E.ct σ H'
  | .exc c fs ρ S => ∀ cls dd σ μ' H', Up μ H μ' H' → RS F μ' H' S → RG F μ' H' σ ρ → XR F μ' H' cls dd c fs → W cls dd σ H'
  | .bad => False
section
variable {F : Fx} {α β γ δ : Type} {rel : List Addr → Hp → β → α → Prop} {rel' : List Addr → Hp → δ → γ → Prop} {μ μ1 : List Addr} {H H1 : Hp} {Q : β → Hp → Prop} {Wx : Value → Option Addr → Hp → Prop}
theorem WR.shift {r : Res α} (u : Up μ H μ1 H1) (h : WR F rel r Q Wx μ H) : WR F rel r Q Wx μ1 H1 := by
  cases r with
  | ok d S => exact fun v μ' H' u' => h v μ' H' (u.trans u')
  | exc c fs S => exact fun cls dd μ' H' u' => h cls dd μ' H' (u.trans u')
  | bad => exact h
theorem WS'.shift {r : Out} {E : Ends} {W : WX} (u : Up μ H μ1 H1) (h : WS' F r E W μ H) : WS' F r E W μ1 H1 := by
  cases r with
  | nx ρ S => exact fun σ μ' H' u' => h σ μ' H' (u.trans u')
  | rt d S => exact fun v μ' H' u' => h v μ' H' (u.trans u')
  | bk ρ S => exact fun σ μ' H' u' => h σ μ' H' (u.trans u')
  | ct ρ S => exact fun σ μ' H' u' => h σ μ' H' (u.trans u')
  | exc c fs ρ S => exact fun cls dd σ μ' H' u' => h cls dd σ μ' H' (u.trans u')
  | bad => exact h
theorem WR.bind {r : Res γ} {f : γ → Sto → Res α} {Q1 : δ → Hp → Prop} (h : WR F rel (r.bind f) Q Wx μ H)
    (k : ∀ x S1 v μ1 H1, Up μ H μ1 H1 → RS F μ1 H1 S1 → rel' μ1 H1 v x → WR F rel (f x S1) Q Wx μ1 H1 → Q1 v H1) : WR F rel' r Q1 Wx μ H := by
  cases r with
  | ok x S1 => exact fun v μ1 H1 u1 s1 r1 => k x S1 v μ1 H1 u1 s1 r1 (WR.shift u1 h)
  | exc c fs S => exact h
  | bad => exact h
theorem WL'.shift {r : Res (List D)} {Q : VK} (u : Up μ H μ1 H1) (h : WL' F r Q Wx μ H) : WL' F r Q Wx μ1 H1 := by
  cases r with
  | ok d S =>
    intro p xs μ' H' u' hp s' r' e'
    have np : p ∉ μ := fun z => (s'.xi p List.mem_cons_self).1 (u'.mem (u.mem z))
    exact h p xs μ' H' (u.trans u') (u.back hp np) s' r' e'
  | exc c fs S => exact fun cls dd μ' H' u' => h cls dd μ' H' (u.trans u')
  | bad => exact h
theorem WL'.bind {r : Res γ} {f : γ → Sto → Res (List D)} {Q : VK} {Q1 : δ → Hp → Prop} (h : WL' F (r.bind f) Q Wx μ H)
    (k : ∀ x S1 v μ1 H1, Up μ H μ1 H1 → RS F μ1 H1 S1 → rel' μ1 H1 v x → WL' F (f x S1) Q Wx μ1 H1 → Q1 v H1) : WR F rel' r Q1 Wx μ H := by
  cases r with
  | ok x S1 => exact fun v μ1 H1 u1 s1 r1 => k x S1 v μ1 H1 u1 s1 r1 (WL'.shift u1 h)
  | exc c fs S => exact h
  | bad => exact h
theorem WT'.shift {r : Res D} {Q : Bool → Hp → Prop} (u : Up μ H μ1 H1) (h : WT' F r Q Wx μ H) : WT' F r Q Wx μ1 H1 := by
  cases r with
  | ok d S =>
    cases d with
    | bl b => exact fun μ' H' u' => h μ' H' (u.trans u')
    | _ => exact h
  | exc c fs S => exact fun cls dd μ' H' u' => h cls dd μ' H' (u.trans u')
  | bad => exact h
theorem WT'.bind {r : Res γ} {f : γ → Sto → Res D} {Q : Bool → Hp → Prop} {Q1 : δ → Hp → Prop} (h : WT' F (r.bind f) Q Wx μ H)
    (k : ∀ x S1 v μ1 H1, Up μ H μ1 H1 → RS F μ1 H1 S1 → rel' μ1 H1 v x → WT' F (f x S1) Q Wx μ1 H1 → Q1 v H1) : WR F rel' r Q1 Wx μ H := by
  cases r with
  | ok x S1 => exact fun v μ1 H1 u1 s1 r1 => k x S1 v μ1 H1 u1 s1 r1 (WT'.shift u1 h)
  | exc c fs S => exact h
  | bad => exact h
theorem WR.bindT {r : Res D} {f : D → Sto → Res α} {Q1 : Bool → Hp → Prop} (h : WR F rel (r.bind f) Q Wx μ H) (hb : ∀ d S, (∀ b, d ≠ .bl b) → f d S = .bad)
    (k : ∀ b S1 μ1 H1, Up μ H μ1 H1 → RS F μ1 H1 S1 → WR F rel (f (.bl b) S1) Q Wx μ1 H1 → Q1 b H1) : WT' F r Q1 Wx μ H := by
  cases r with
  | ok d S =>
    have h : WR F rel (f d S) Q Wx μ H := h
    cases d with
    | bl b => exact fun μ1 H1 u1 s1 => k b S μ1 H1 u1 s1 (WR.shift u1 h)
    | _ =>
      rw [hb _ _ (by intro b e; cases e)] at h
      exact h
  | exc c fs S => exact h
  | bad => exact h
theorem WT'.bindT {r : Res D} {f : D → Sto → Res D} {Q Q1 : Bool → Hp → Prop} (h : WT' F (r.bind f) Q Wx μ H) (hb : ∀ d S, (∀ b, d ≠ .bl b) → f d S = .bad)
    (k : ∀ b S1 μ1 H1, Up μ H μ1 H1 → RS F μ1 H1 S1 → WT' F (f (.bl b) S1) Q Wx μ1 H1 → Q1 b H1) : WT' F r Q1 Wx μ H := by
  cases r with
  | ok d S =>
    have h : WT' F (f d S) Q Wx μ H := h
    cases d with
    | bl b => exact fun μ1 H1 u1 s1 => k b S μ1 H1 u1 s1 (WT'.shift u1 h)
    | _ =>
      rw [hb _ _ (by intro b e; cases e)] at h
      exact h
  | exc c fs S => exact h
  | bad => exact h
theorem WT'.val {r : Res D} {Q : Bool → Hp → Prop} (h : WT' F r Q Wx μ H) : WE' F r (fun x H' => ∃ k, x = .bl k ∧ Q k H') Wx μ H := by
  cases r with
  | ok d S =>
    cases d with
    | bl b =>
      intro v μ' H' u' s' r'
      cases r'
      exact ⟨b, rfl, h μ' H' u' s'⟩
    | _ => exact h.elim
  | exc c fs S => exact h
  | bad => exact h
end
end Dm
namespace Dm
open PySem L2 PySem.Spec PyProof.Rows
open PySem.W (Frag)
abbrev NwT (H : Hp) (Q : VK) (xs : List V) : Prop := ∀ (p : Addr) (o : Obj), H p = none → o.dict = none → Q (.ref p) (upd H p (.frz o (.tup xs)))
theorem RdT.new {H : Hp} {p : Addr} {o : Obj} {xs : List V} (d : o.dict = none) : RdT (upd H p (.frz o (.tup xs))) p xs := ⟨o, d, upd_same⟩
section
variable {X : Cx} {pins : List (Addr × Obj)} {σ : L2.St} {H : Hp} {s : Shared} {Q : VK} {h' : Heap} {xs : List V} {its : List Value}
theorem tup_laid {t' : Nat} (I : Inv X pins σ H s) (k : ∀ b u, s.heap.get? b = some u → h'.get? b = some u) {p : Addr} (hp : s.heap.objs.size ≤ p) {n : Nat} (e : h'.get? p = some { cls := .type "tuple", data := .seq its.toArray n }) (hz : xs.length ≤ sizeLine) (r : Vals xs its) (q : NwT H Q xs) : EP X pins σ Q (.ref p) { s with heap := h', toks := t' } :=
  ⟨.ref p, _, I.laid (t' := t') (o := .frz { cls := .type "tuple", data := .seq its.toArray n } (.tup xs)) k hp ⟨e, hz, its, r, ⟨_, e, rfl, n, rfl⟩⟩, rfl, q p _ (I.hok.fresh hp) rfl⟩
theorem tup_here (I : Inv X pins σ H s) (hz : xs.length ≤ sizeLine) (r : Vals xs its) (q : NwT H Q xs) : EP X pins σ Q (.ref s.heap.objs.size) { s with heap := s.heap.push { cls := .type "tuple", data := .seq its.toArray } } :=
  tup_laid (t' := s.toks) I (fun b u e => Heap.get?_push_of_some _ e) (Nat.le_refl _) (Heap.get?_push_size _ rfl) hz r q
end
section
variable {X : Cx} {es : List Expr} {t : TA} {pos : Pos}
noncomputable def tTupF (t : TA) : TE := fun σ H Q => t σ H fun xs H1 => xs.length ≤ sizeLine ∧ NwT H1 Q xs
theorem pe_tupF {x1} (h : PA X es t) : PE X (.Tuple es x1 pos) (tTupF t) :=
  ⟨fun pins s σ H Q I hq => wpAny_Tuple_spliced (thn (h.run pos pins s σ H _ I hq) fun us s1 ⟨xs, H1, I1, r, z, q⟩ => ⟨by rw [← r.length]; exact z, tup_here I1 z r q⟩)⟩
noncomputable def rCatF (K : Frag) : R2 := fun x y H Q => ∃ a b xs ys, x = .ref a ∧ y = .ref b ∧ SqT K H a xs ∧ SqT K H b ys ∧ xs.length + ys.length ≤ sizeLine ∧ (xs = [] → Q (.ref b) H) ∧ (xs ≠ [] → ys = [] → Q (.ref a) H) ∧ (xs ≠ [] → ys ≠ [] → NwT H Q (xs ++ ys))
theorem op_catF : OpR X (binaryOp .Add) (rCatF X.K) := by
  rintro pins s σ H x y v u Q I rx ry ⟨a, b, xs, ys, rfl, rfl, ha, hb, hz, q0, q1, q2⟩
  by_cases hc : xs = [] ∨ ys = []
  · refine op_catA pins s σ H _ _ v u Q I rx ry ⟨a, b, xs, ys, rfl, rfl, ha, hb, hz, q0, q1, fun h1 h2 => ?_⟩
    exact (hc.elim h1 h2).elim
  · have h1 : xs ≠ [] := fun z => hc (.inl z)
    have h2 : ys ≠ [] := fun z => hc (.inr z)
    cases rx; cases ry
    obtain ⟨i1, r1, p1, _⟩ := I.tuple ha
    obtain ⟨i2, r2, p2, _⟩ := I.tuple hb
    refine HT.cat_tup p1 p2 (fun z => h1 (r1.nil_iff.mp z)) (fun z => (h2 (r2.nil_iff.mp z)).elim) (fun _ => tup_here I ?_ (r1.append r2) (q2 h1 h2)) ?_
    · rw [List.length_append]
      exact hz
    · rw [← r1.length, ← r2.length]
      exact hz
noncomputable def rSlF (K : Frag) : V → Option Int → Option Int → Hp → VK → Prop := fun x lo hi H Q => ∃ a xs, x = .ref a ∧ SqT K H a xs ∧
  (HT.sIx xs.length 0 lo = 0 ∧ HT.sIx xs.length xs.length hi = xs.length → Q (.ref a) H) ∧ (¬ (HT.sIx xs.length 0 lo = 0 ∧ HT.sIx xs.length xs.length hi = xs.length) → NwT H Q (cutV xs lo hi))
theorem sl_tupF : SlR X (rSlF X.K) := by
  rintro pins s σ H x v vl vu lo hi sl Q I rx hs pl pu ⟨a, xs, rfl, hx, q1, q2⟩
  by_cases hw : HT.sIx xs.length 0 lo = 0 ∧ HT.sIx xs.length xs.length hi = xs.length
  · exact sl_tupA pins s σ H _ v vl vu lo hi sl Q I rx hs pl pu ⟨a, xs, rfl, hx, q1, fun n => (n hw).elim⟩
  · cases rx
    obtain ⟨its, r, ht, hz⟩ := I.tuple hx
    have e : its.toArray.size = xs.length := by rw [List.size_toArray, r.length]
    refine ⟨"tuple", _, PyProof.Rows.slot_tuple_getitem.lookup, ht.typeIs, HT.getItem_tuple_cut ht hs pl pu (by rw [e]; exact hw) ?_ (by rw [e]; exact hz)⟩
    rw [e]
    exact tup_here I (Nat.le_trans (cutV_length xs lo hi) hz) ((r.drop _).take _) (q2 hw)
theorem call_tupF : CallR X (.type "tuple") (fun xs H Q => ∃ p ys, xs = [.ref p] ∧ ((SqL X.K H p ys ∧ NwT H Q ys) ∨ (SqT X.K H p ys ∧ Q (.ref p) H))) := by
  rintro pins s σ H xs us Q I r ⟨p, ys, rfl, h⟩
  rcases h with ⟨hq, q⟩ | ⟨hq, q⟩
  · obtain ⟨u, rfl, rx⟩ := vals1 r
    cases rx
    obtain ⟨its, r', pl, hz⟩ := I.list hq
    have hn := r'.length
    refine call_tuple_list pl.isList (fun h' kp => ?_) (by rw [List.size_toArray]; omega)
    have I1 := I.kept (t' := s.toks) kp
    exact tup_here (s := { s with heap := h' }) I1 hz r' q
  · exact call_tuple_of pins s σ H _ us Q I r ⟨p, ys, rfl, .inr ⟨hq, q⟩⟩
end
end Dm
namespace Dm
open PySem L2
open PySem.W (Frag)
structure DE (X : Cx) (W : WX) (e : Expr) (m : ME) : Prop where
  ex : ∃ te, PE X e te ∧ ∀ ξ μ σ H ρ S Q, RG (fx X ξ) μ H σ ρ → RS (fx X ξ) μ H S → WE' (fx X ξ) (m ρ S) Q (fun cls dd H' => W cls dd σ H') μ H → te σ H Q
structure DT (X : Cx) (W : WX) (e : Expr) (m : ME) : Prop where
  ex : ∃ te, PT X e te ∧ ∀ ξ μ σ H ρ S Q, RG (fx X ξ) μ H σ ρ → RS (fx X ξ) μ H S → WT' (fx X ξ) (m ρ S) Q (fun cls dd H' => W cls dd σ H') μ H → te σ H Q
structure DW (X : Cx) (W : WX) (e : Expr) (m : ME) : Prop where
  ex : ∃ te, PW X e te ∧ ∀ ξ μ σ H ρ S Q, RG (fx X ξ) μ H σ ρ → RS (fx X ξ) μ H S → WT' (fx X ξ) (m ρ S) Q (fun cls dd H' => W cls dd σ H') μ H → te σ H Q
structure DA (X : Cx) (W : WX) (es : List Expr) (m : MA) : Prop where
  ex : ∃ te, PA X es te ∧ ∀ ξ μ σ H ρ S Q, RG (fx X ξ) μ H σ ρ → RS (fx X ξ) μ H S → WA' (fx X ξ) (m ρ S) Q (fun cls dd H' => W cls dd σ H') μ H → te σ H Q
structure DL (X : Cx) (W : WX) (e : Expr) (m : MA) : Prop where
  ex : ∃ te, PE X e te ∧ ∀ ξ μ σ H ρ S Q, RG (fx X ξ) μ H σ ρ → RS (fx X ξ) μ H S →
    WL' (fx X ξ) (m ρ S) Q (fun cls dd H' => W cls dd σ H') μ H → te σ H Q
structure DS (X : Cx) (W : WX) (st : Stmt) (m : MS) : Prop where
  ex : ∃ ts, PS X st ts ∧ ∀ ξ μ σ H ρ S D, RG (fx X ξ) μ H σ ρ → RS (fx X ξ) μ H S → WS' (fx X ξ) (m ρ S) D W μ H → ts D σ H
structure DSs (X : Cx) (W : WX) (st : List Stmt) (m : MS) : Prop where
  ex : ∃ ts, PSs X st ts ∧ ∀ ξ μ σ H ρ S D, RG (fx X ξ) μ H σ ρ → RS (fx X ξ) μ H S → WS' (fx X ξ) (m ρ S) D W μ H → ts D σ H
noncomputable def mVar (i : Nat) : ME := fun ρ S => match ρ[i]? with
  | some (some d) => .ok d S
  | _ => .bad
noncomputable def mK (d : D) : ME := fun _ S => .ok d S
noncomputable def mOp (g : Sto → D → D → Option D) (a b : ME) : ME := fun ρ S => (a ρ S).bind fun x S1 => (b ρ S1).bind fun y S2 => match g S2 x y with
  | some z => .ok z S2
  | none => .bad
noncomputable def mUn (g : Sto → D → Option D) (a : ME) : ME := fun ρ S => (a ρ S).bind fun x S1 => match g S1 x with
  | some z => .ok z S1
  | none => .bad
noncomputable def mAnd (a b : ME) : ME := fun ρ S => (a ρ S).bind fun x S1 => match x with
  | .bl true => b ρ S1
  | .bl false => .ok (.bl false) S1
  | _ => .bad
noncomputable def mOr (a b : ME) : ME := fun ρ S => (a ρ S).bind fun x S1 => match x with
  | .bl true => .ok (.bl true) S1
  | .bl false => b ρ S1
  | _ => .bad
noncomputable def mNot (a : ME) : ME := fun ρ S => (a ρ S).bind fun x S1 => match x with
  | .bl c => .ok (.bl (!c)) S1
  | _ => .bad
noncomputable def mIf (c a b : ME) : ME := fun ρ S => (c ρ S).bind fun x S1 => match x with
  | .bl true => a ρ S1
  | .bl false => b ρ S1
  | _ => .bad
noncomputable def mNil : MA := fun _ S => .ok [] S
noncomputable def mCons (a : ME) (r : MA) : MA := fun ρ S => (a ρ S).bind fun x S1 => (r ρ S1).bind fun xs S2 => .ok (x :: xs) S2
noncomputable def mTup (a : MA) : ME := fun ρ S => (a ρ S).bind fun xs S1 => if xs.length ≤ 16777216 then .ok (.tup xs) S1 else .bad
noncomputable def mLst (a : MA) : MA := fun ρ S => (a ρ S).bind fun xs S1 => if xs.length ≤ 16777216 then .ok xs S1 else .bad
noncomputable def mCall (f : List D → Sto → Res D) (a : MA) : ME := fun ρ S => (a ρ S).bind fun xs S1 => f xs S1
noncomputable def mFz (a : MA) : ME := fun ρ S => (a ρ S).bind fun xs S1 => .ok (.lst xs) S1
noncomputable def mNew (a : MA) : ME := fun ρ S => (a ρ S).bind fun xs S1 => .ok (.cell S1.length) (S1 ++ [.lst xs])
section
variable {X : Cx} {W : WX} {e a b c : Expr} {es : List Expr} {ma mb mc m : ME} {mr : MA} {pos : Pos}
theorem d_var (i : Nat) {x : Str} (hN : X.N[i]? = some x := by rfl) (hv : Vis X.env.scope x := by first | exact Or.inl rfl | exact Or.inr (Or.inl rfl) | exact Or.inr (Or.inr rfl)) (hd : (x == ("__debug__" : Str)) = false := by decide)
    (hcd : (x == ("__classdict__" : Str)) = false := by decide) : DE X W (.Name x pos) (mVar i) :=
  ⟨_, pe_var hN hv hd hcd, fun ξ μ σ H ρ S Q g s h => by
    unfold mVar at h
    cases e : ρ[i]? with
    | none => rw [e] at h; exact h.elim
    | some o =>
      cases o with
      | none => rw [e] at h; exact h.elim
      | some d =>
        rw [e] at h
        obtain ⟨v, hv, r⟩ := g.at_ i d e
        exact ⟨v, hv, h v μ H .refl s r⟩⟩
theorem d_k {te : TE} {v : V} {d : D} (hp : PE X e te) (ht : te = tC v) (hr : ∀ ξ μ H, RD (fx X ξ) μ H v d) : DE X W e (mK d) :=
  ⟨te, hp, fun ξ μ σ H ρ S Q g s h => by subst ht; exact h v μ H .refl s (hr ξ μ H)⟩
theorem d_int {i : Int} {j} : DE X W (.Constant (.int i) j pos) (mK (.int i)) := d_k pe_int rfl fun _ _ _ => .int i
theorem d_bl {i : Bool} {j} : DE X W (.Constant (.bool i) j pos) (mK (.bl i)) := d_k pe_bl rfl fun _ _ _ => .bl i
theorem d_non {j} : DE X W (.Constant .none j pos) (mK .non) := d_k pe_non rfl fun _ _ _ => .non
theorem d_str {i : Str} {j} : DE X W (.Constant (.str i) j pos) (mK (.str i)) := d_k pe_str rfl fun _ _ _ => .str i
noncomputable def GlD (X : Cx) (x : Str) (d : D) : Prop := ∃ u v, X.mg x = some u ∧ RelV v u ∧ ∀ ξ μ H, RD (fx X ξ) μ H v d
theorem d_glob {x : Str} {d : D} (hg : Gl X x) (hm : GlD X x d) (hd : (x == ("__debug__" : Str)) = false := by decide) : DE X W (.Name x pos) (mK d) := by
  obtain ⟨u, v, h1, h2, h3⟩ := hm
  exact d_k (pe_glob hg h1 h2 hd) rfl h3
noncomputable def OpD (X : Cx) (r : R2) (g : Sto → D → D → Option D) : Prop :=
  ∀ ξ μ H S x y v u z Q, RS (fx X ξ) μ H S → RD (fx X ξ) μ H v x → RD (fx X ξ) μ H u y → g S x y = some z → (∀ w μ' H', Up μ H μ' H' → RS (fx X ξ) μ' H' S → RD (fx X ξ) μ' H' w z → Q w H') → r v u H Q
theorem op2 {r : R2} {g : Sto → D → D → Option D} {ta tb : TE} {μ ξ : List Addr} {σ : St} {H : Hp} {ρ : Rho} {S : Sto} {Q : VK} (hd : OpD X r g)
    (ka : ∀ ξ μ σ H ρ S Q, RG (fx X ξ) μ H σ ρ → RS (fx X ξ) μ H S → WE' (fx X ξ) (ma ρ S) Q (fun cls dd H' => W cls dd σ H') μ H → ta σ H Q)
    (kb : ∀ ξ μ σ H ρ S Q, RG (fx X ξ) μ H σ ρ → RS (fx X ξ) μ H S → WE' (fx X ξ) (mb ρ S) Q (fun cls dd H' => W cls dd σ H') μ H → tb σ H Q)
    (g0 : RG (fx X ξ) μ H σ ρ) (s : RS (fx X ξ) μ H S) (h : WE' (fx X ξ) (mOp g ma mb ρ S) Q (fun cls dd H' => W cls dd σ H') μ H) : tOp r ta tb σ H Q := by
  refine ka ξ μ σ H ρ S _ g0 s (WR.bind h fun x S1 v μ1 H1 u1 s1 r1 h1 => ?_)
  refine kb ξ μ1 σ H1 ρ S1 _ (g0.up u1) s1 (WR.bind h1 fun y S2 v2 μ2 H2 u2 s2 r2 h2 => ?_)
  cases e : g S2 x y with
  | none => rw [e] at h2; exact h2.elim
  | some z =>
    rw [e] at h2
    exact hd ξ μ2 H2 S2 x y v v2 z Q s2 (r1.up u2) r2 e fun w μ' H' u' s' r' => h2 w μ' H' u' s' r'
theorem d_op {op : Operator} {r : R2} {g : Sto → D → D → Option D} (ho : OpR X (binaryOp op) r) (hd : OpD X r g) (ha : DE X W a ma) (hb : DE X W b mb) : DE X W (.BinOp a op b pos) (mOp g ma mb) := by
  obtain ⟨ta, pa, ka⟩ := ha
  obtain ⟨tb, pb, kb⟩ := hb
  exact ⟨_, pe_op ho pa pb, fun ξ μ σ H ρ S Q g0 s h => op2 (ξ := ξ) hd ka kb g0 s h⟩
theorem d_cmp {op : CmpOp} {r : R2} {g : Sto → D → D → Option D} (ho : OpR X (compareOp op) r) (hd : OpD X r g) (ha : DE X W a ma) (hb : DE X W b mb) (hm : behindInMarks op b = false := by first | exact nomark _ | rfl) : DE X W (.Compare a [op] [b] pos) (mOp g ma mb) := by
  obtain ⟨ta, pa, ka⟩ := ha
  obtain ⟨tb, pb, kb⟩ := hb
  exact ⟨_, pe_cmpR ho pa pb hm, fun ξ μ σ H ρ S Q g0 s h => op2 (ξ := ξ) hd ka kb g0 s h⟩
theorem dt_val (h : DE X W e m) (he : ∀ whole, isTrue e X.env whole = (do let v ← whole; standAt e.pos; holding [v] (truthy v)) := by intro _; rfl) : DT X W e m := by
  obtain ⟨te, p, k⟩ := h
  exact ⟨_, pt_val p he, fun ξ μ σ H ρ S Q g s h => k ξ μ σ H ρ S _ g s (WT'.val h)⟩
theorem dt_cmp {op : CmpOp} {r : R2} {g : Sto → D → D → Option D} (ho : OpR X (compareOp op) r) (hd : OpD X r g) (ha : DE X W a ma) (hb : DE X W b mb) (hm : behindInMarks op b = false := by first | exact nomark _ | rfl) : DT X W (.Compare a [op] [b] pos) (mOp g ma mb) := by
  obtain ⟨ta, pa, ka⟩ := ha
  obtain ⟨tb, pb, kb⟩ := hb
  exact ⟨_, pt_cmpR ho pa pb hm, fun ξ μ σ H ρ S Q g0 s h => op2 (ξ := ξ) hd ka kb g0 s (WT'.val h)⟩
theorem DT.w (h : DW X W e m) : DT X W e m := let ⟨t, p, k⟩ := h; ⟨t, p.pt, k⟩
theorem notb2 {α : Type} {k l : Sto → Res α} : ∀ (d : D) (S : Sto), (∀ b, d ≠ .bl b) → (match d with | .bl true => k S | .bl false => l S | _ => Res.bad) = Res.bad := fun d S h => by
  cases d with
  | bl b => exact absurd rfl (h b)
  | _ => rfl
theorem dw_and1 (ha : DT X W a ma) : DW X W (.BoolOp .And [a] pos) ma := let ⟨_, p, k⟩ := ha; ⟨_, pw_and1 p, k⟩
theorem dw_or1 (ha : DT X W a ma) : DW X W (.BoolOp .Or [a] pos) ma := let ⟨_, p, k⟩ := ha; ⟨_, pw_or1 p, k⟩
theorem dw_and {rest : List Expr} (ha : DT X W a ma) (hb : DW X W (.BoolOp .And (b :: rest) pos) mb) : DW X W (.BoolOp .And (a :: b :: rest) pos) (mAnd ma mb) := by
  obtain ⟨ta, pa, ka⟩ := ha
  obtain ⟨tb, pb, kb⟩ := hb
  refine ⟨_, pw_and pa pb, fun ξ μ σ H ρ S Q g s h => ?_⟩
  refine ka ξ μ σ H ρ S _ g s (WT'.bindT h (fun d S h => notb2 d S h) fun c S1 μ1 H1 u1 s1 h1 => ?_)
  cases c with
  | true => exact kb ξ μ1 σ H1 ρ S1 Q (g.up u1) s1 h1
  | false => exact h1 μ1 H1 .refl s1
theorem dw_or {rest : List Expr} (ha : DT X W a ma) (hb : DW X W (.BoolOp .Or (b :: rest) pos) mb) : DW X W (.BoolOp .Or (a :: b :: rest) pos) (mOr ma mb) := by
  obtain ⟨ta, pa, ka⟩ := ha
  obtain ⟨tb, pb, kb⟩ := hb
  refine ⟨_, pw_or pa pb, fun ξ μ σ H ρ S Q g s h => ?_⟩
  refine ka ξ μ σ H ρ S _ g s (WT'.bindT h (fun d S h => notb2 d S h) fun c S1 μ1 H1 u1 s1 h1 => ?_)
  cases c with
  | false => exact kb ξ μ1 σ H1 ρ S1 Q (g.up u1) s1 h1
  | true => exact h1 μ1 H1 .refl s1
theorem dt_not (ha : DT X W a ma) : DT X W (.UnaryOp .Not a pos) (mNot ma) := by
  obtain ⟨ta, pa, ka⟩ := ha
  refine ⟨_, pt_not pa, fun ξ μ σ H ρ S Q g s h => ?_⟩
  refine ka ξ μ σ H ρ S _ g s (WT'.bindT h (fun d S h => by cases d <;> first | rfl | exact absurd rfl (h _)) fun c S1 μ1 H1 u1 s1 h1 => ?_)
  exact h1 μ1 H1 .refl s1
theorem d_one {op} (h : DE X W a m) : DE X W (.BoolOp op [a] pos) m := let ⟨_, p, k⟩ := h; ⟨_, pe_one p, k⟩
theorem WE'.boolv {r : Res D} {f : D → Sto → Res D} {Q Q1 : VK} {Wx : Value → Option Addr → Hp → Prop} {μ ξ : List Addr} {H : Hp} (h : WE' (fx X ξ) (r.bind f) Q Wx μ H) (hb : ∀ d S, (∀ b, d ≠ .bl b) → f d S = .bad)
    (k : ∀ b S1 μ1 H1, Up μ H μ1 H1 → RS (fx X ξ) μ1 H1 S1 → WE' (fx X ξ) (f (.bl b) S1) Q Wx μ1 H1 → Q1 (.bl b) H1) : WE' (fx X ξ) r Q1 Wx μ H := by
  refine WR.bind h fun x S1 v μ1 H1 u1 s1 r1 h1 => ?_
  cases r1 with
  | bl b => exact k b S1 μ1 H1 u1 s1 h1
  | _ =>
    rw [hb _ _ (by intro b e; cases e)] at h1
    exact h1.elim
theorem d_and {rest : List Expr} (ha : DE X W a ma) (hb : DE X W (.BoolOp .And (b :: rest) pos) mb) : DE X W (.BoolOp .And (a :: b :: rest) pos) (mAnd ma mb) := by
  obtain ⟨ta, pa, ka⟩ := ha
  obtain ⟨tb, pb, kb⟩ := hb
  refine ⟨_, pe_and pa pb, fun ξ μ σ H ρ S Q g s h => ?_⟩
  refine ka ξ μ σ H ρ S _ g s (WE'.boolv h (fun d S h => notb2 d S h) fun c S1 μ1 H1 u1 s1 h1 => ⟨c, rfl, ?_⟩)
  cases c with
  | true => exact kb ξ μ1 σ H1 ρ S1 Q (g.up u1) s1 h1
  | false => exact h1 _ μ1 H1 .refl s1 (.bl _)
theorem d_or {rest : List Expr} (ha : DE X W a ma) (hb : DE X W (.BoolOp .Or (b :: rest) pos) mb) : DE X W (.BoolOp .Or (a :: b :: rest) pos) (mOr ma mb) := by
  obtain ⟨ta, pa, ka⟩ := ha
  obtain ⟨tb, pb, kb⟩ := hb
  refine ⟨_, pe_or pa pb, fun ξ μ σ H ρ S Q g s h => ?_⟩
  refine ka ξ μ σ H ρ S _ g s (WE'.boolv h (fun d S h => notb2 d S h) fun c S1 μ1 H1 u1 s1 h1 => ⟨c, rfl, ?_⟩)
  cases c with
  | false => exact kb ξ μ1 σ H1 ρ S1 Q (g.up u1) s1 h1
  | true => exact h1 _ μ1 H1 .refl s1 (.bl _)
theorem d_not (ha : DE X W a ma) : DE X W (.UnaryOp .Not a pos) (mNot ma) := by
  obtain ⟨ta, pa, ka⟩ := ha
  refine ⟨_, pe_not pa, fun ξ μ σ H ρ S Q g s h => ?_⟩
  exact ka ξ μ σ H ρ S _ g s (WE'.boolv h (fun d S h => by cases d <;> first | rfl | exact absurd rfl (h _)) fun c S1 μ1 H1 u1 s1 h1 => ⟨c, rfl, h1 _ μ1 H1 .refl s1 (.bl _)⟩)
theorem d_ifExp (hc : DT X W c mc) (ha : DE X W a ma) (hb : DE X W b mb) : DE X W (.IfExp c a b pos) (mIf mc ma mb) := by
  obtain ⟨tc, pc, kc⟩ := hc
  obtain ⟨ta, pa, ka⟩ := ha
  obtain ⟨tb, pb, kb⟩ := hb
  refine ⟨_, pe_ifExp pc pa pb, fun ξ μ σ H ρ S Q g s h => ?_⟩
  refine kc ξ μ σ H ρ S _ g s (WR.bindT h (fun d S h => notb2 d S h) fun c S1 μ1 H1 u1 s1 h1 => ?_)
  cases c with
  | true => exact ka ξ μ1 σ H1 ρ S1 Q (g.up u1) s1 h1
  | false => exact kb ξ μ1 σ H1 ρ S1 Q (g.up u1) s1 h1
noncomputable def UnD (X : Cx) (r : V → Hp → VK → Prop) (g : Sto → D → Option D) : Prop :=
  ∀ ξ μ H S x v z Q, RS (fx X ξ) μ H S → RD (fx X ξ) μ H v x → g S x = some z → (∀ w μ' H', Up μ H μ' H' → RS (fx X ξ) μ' H' S → RD (fx X ξ) μ' H' w z → Q w H') → r v H Q
theorem d_un {op : UnaryOp} {r : V → Hp → VK → Prop} {g : Sto → D → Option D} (ho : UnR X (unaryOp op) r) (hd : UnD X r g) (ha : DE X W a ma) : DE X W (.UnaryOp op a pos) (mUn g ma) := by
  obtain ⟨ta, pa, ka⟩ := ha
  refine ⟨_, pe_un ho pa, fun ξ μ σ H ρ S Q g0 s h => ka ξ μ σ H ρ S _ g0 s (WR.bind h fun x S1 v μ1 H1 u1 s1 r1 h1 => ?_)⟩
  cases e : g S1 x with
  | none => rw [e] at h1; exact h1.elim
  | some z =>
    rw [e] at h1
    exact hd ξ μ1 H1 S1 x v z Q s1 r1 e h1
theorem da_nil : DA X W [] mNil := ⟨_, pa_nil, fun ξ μ σ H ρ S Q g s h => h [] μ H .refl s .nil⟩
theorem da_cons (ha : DE X W e ma) (hr : DA X W es mr) (hs : starEach (e :: es) X.env = (false, eval e X.env) :: starEach es X.env := by rfl) : DA X W (e :: es) (mCons ma mr) := by
  obtain ⟨ta, pa, ka⟩ := ha
  obtain ⟨tr, pr, kr⟩ := hr
  refine ⟨_, pa_cons pa pr hs, fun ξ μ σ H ρ S Q g s h => ka ξ μ σ H ρ S _ g s (WR.bind h fun x S1 v μ1 H1 u1 s1 r1 h1 => ?_)⟩
  refine kr ξ μ1 σ H1 ρ S1 _ (g.up u1) s1 (WR.bind h1 fun xs S2 vs μ2 H2 u2 s2 r2 h2 => ?_)
  exact h2 _ μ2 H2 .refl s2 (.cons (r1.up u2) r2)
theorem d_tup {x1} (h : DA X W es mr) : DE X W (.Tuple es x1 pos) (mTup mr) := by
  obtain ⟨ta, pa, ka⟩ := h
  refine ⟨_, pe_tupF pa, fun ξ μ σ H ρ S Q g s h => ka ξ μ σ H ρ S _ g s (WR.bind h fun xs S1 vs μ1 H1 u1 s1 r1 h1 => ?_)⟩
  by_cases hz : xs.length ≤ 16777216
  · rw [if_pos hz] at h1
    refine ⟨by rw [r1.length, sizeLine_eq]; exact hz, fun p o hp ho => ?_⟩
    exact h1 _ μ1 _ (.fresh hp) (s1.fresh hp) (.tup (.inl ⟨.new ho, s1.out hp, s1.outX hp⟩) (r1.up (.fresh hp)))
  · rw [if_neg hz] at h1; exact h1.elim
theorem dl_lst (h : DA X W es mr) : DL X W (.List es pos) (mLst mr) := by
  obtain ⟨ta, pa, ka⟩ := h
  refine ⟨_, pe_lst pa, fun ξ μ σ H ρ S Q g s h => ka ξ μ σ H ρ S _ g s (WL'.bind h fun xs S1 vs μ1 H1 u1 s1 r1 h1 => ?_)⟩
  by_cases hz : xs.length ≤ 16777216
  · rw [if_pos hz] at h1
    exact ⟨by rw [r1.length, sizeLine_eq]; exact hz, fun p hp => h1 p vs μ1 _ (.fresh hp) hp (s1.holds hp) (r1.mv (.holds hp)) upd_same⟩
  · rw [if_neg hz] at h1; exact h1.elim
theorem d_fz (h : DL X W e mr) : DE X W e (mFz mr) := by
  obtain ⟨te, p, k⟩ := h
  refine ⟨_, p, fun ξ μ σ H ρ S Q g s h => k ξ μ σ H ρ S Q g s ?_⟩
  unfold mFz at h
  cases e : mr ρ S with
  | bad => rw [e] at h; exact h.elim
  | exc c fs S' => rw [e] at h; exact h
  | ok ds S' =>
    rw [e] at h
    intro q xs μ' H' u' hq s' r' e'
    exact h _ μ' H' u' s'.free (.lst (.inl ⟨.inl e', (s'.xi q List.mem_cons_self).1, s.outX hq⟩) (r'.mv .free))
theorem d_new (h : DL X W e mr) : DE X W e (mNew mr) := by
  obtain ⟨te, p, k⟩ := h
  refine ⟨_, p, fun ξ μ σ H ρ S Q g s h => k ξ μ σ H ρ S Q g s ?_⟩
  unfold mNew at h
  cases e : mr ρ S with
  | bad => rw [e] at h; exact h.elim
  | exc c fs S' => rw [e] at h; exact h
  | ok ds S' =>
    rw [e] at h
    intro q xs μ' H' u' hq s' r' e'
    have l : S'.length = μ'.length := s'.len.symm
    refine h (.ref q) (μ' ++ [q]) H' ⟨?_, fun a ha n => ?_, u'.keep⟩ (s'.asCell (s.outX hq) e' r') (.cell (by rw [l]; exact alloc_at))
    · obtain ⟨ν, z⟩ := u'.pre
      exact ⟨ν ++ [q], by rw [z, List.append_assoc]⟩
    · rcases List.mem_append.mp ha with z | z
      · exact u'.new a z n
      · rw [List.mem_singleton.mp z]; exact hq
end
end Dm
namespace Dm
open PySem L2
open PySem.W (Frag)
noncomputable def lstOf (S : Sto) : D → Option (List D)
  | .lst ds => some ds
  | .cell n => match S[n]? with
    | some (.lst ds) => some ds
    | _ => none
  | _ => none
noncomputable def seqOf (S : Sto) : D → Option (List D)
  | .tup ds => some ds
  | d => lstOf S d
section
variable {F : Fx} {μ : List Addr} {H : Hp} {S : Sto} {v : V} {d : D} {ds : List D}
theorem RD.lstS (s : RS F μ H S) (r : RD F μ H v d) (h : lstOf S d = some ds) : ∃ a xs, v = .ref a ∧ SqL F.K H a xs ∧ RDs F μ H xs ds := by
  cases r with
  | lst f r =>
    cases h
    exact ⟨_, _, rfl, f.sq, r⟩
  | @cell a n e =>
    simp only [lstOf] at h
    cases q : S[n]? with
    | none => rw [q] at h; exact nomatch h
    | some c =>
      rw [q] at h
      cases c with
      | lst es =>
        cases h
        obtain ⟨xs, h1, h2⟩ := s.at_ n a _ e q
        exact ⟨a, xs, rfl, SqL.of h1, h2⟩
      | _ => exact nomatch h
  | _ => exact nomatch h
theorem RD.seqS (s : RS F μ H S) (r : RD F μ H v d) (h : seqOf S d = some ds) : ∃ a xs, v = .ref a ∧ (SqL F.K H a xs ∨ SqT F.K H a xs) ∧ RDs F μ H xs ds := by
  cases r with
  | tup f r =>
    cases h
    exact ⟨_, _, rfl, .inr f.sq, r⟩
  | lst f r =>
    obtain ⟨a, xs, e, q, z⟩ := RD.lstS s (.lst f r) h
    exact ⟨a, xs, e, .inl q, z⟩
  | cell e =>
    obtain ⟨a, xs, e, q, z⟩ := RD.lstS s (.cell e) h
    exact ⟨a, xs, e, .inl q, z⟩
  | _ => exact nomatch h
theorem RDs.atI {vs : List V} {i : Int} (r : RDs F μ H vs ds) (h : atI ds i = some d) : ∃ v, L2.atI vs i = some v ∧ RD F μ H v d := by
  unfold L2.atI at h ⊢
  rw [r.length]
  cases e : ixN ds.length i with
  | none => rw [e] at h; exact nomatch h
  | some j =>
    rw [e] at h
    exact r.get h
end
noncomputable def gI (f : Int → Int → D) : Sto → D → D → Option D := fun _ x y => match x, y with
  | .int i, .int j => some (f i j)
  | _, _ => none
noncomputable def gIC (C : Int → Int → Prop) [∀ i j, Decidable (C i j)] (f : Int → Int → D) : Sto → D → D → Option D := fun _ x y => match x, y with
  | .int i, .int j => if C i j then some (f i j) else none
  | _, _ => none
section
variable {X : Cx}
theorem opd_I0 {fv : Int → Int → V} {fd : Int → Int → D} (h : ∀ i j ξ μ H, RD (fx X ξ) μ H (fv i j) (fd i j)) : OpD X (rI0 fv) (gI fd) := by
  intro ξ μ H S x y v u z Q s rx ry e k
  cases rx with
  | int i =>
    cases ry with
    | int j =>
      cases e
      exact ⟨i, j, rfl, rfl, k _ μ H .refl s (h i j ξ μ H)⟩
    | _ => exact nomatch e
  | _ => exact nomatch e
theorem opd_I {C : Int → Int → Prop} [∀ i j, Decidable (C i j)] {fv : Int → Int → V} {fd : Int → Int → D} (h : ∀ i j ξ μ H, RD (fx X ξ) μ H (fv i j) (fd i j)) : OpD X (rI C fv) (gIC C fd) := by
  intro ξ μ H S x y v u z Q s rx ry e k
  cases rx with
  | int i =>
    cases ry with
    | int j =>
      unfold gIC at e
      by_cases c : C i j
      · simp only [if_pos c] at e
        cases e
        exact ⟨i, j, rfl, rfl, c, k _ μ H .refl s (h i j ξ μ H)⟩
      · simp only [if_neg c] at e
        exact nomatch e
    | _ => exact nomatch e
  | _ => exact nomatch e
theorem OpD.or {r r' : R2} {g g' : Sto → D → D → Option D} (h : OpD X r g) (h' : OpD X r' g') : OpD X (fun x y H Q => r x y H Q ∨ r' x y H Q) (fun S x y => (g S x y).or (g' S x y)) := by
  intro ξ μ H S x y v u z Q s rx ry e k
  have e : (g S x y).or (g' S x y) = some z := e
  cases q : g S x y with
  | some w =>
    rw [q] at e
    cases e
    exact .inl (h ξ μ H S x y v u _ Q s rx ry q k)
  | none =>
    rw [q] at e
    exact .inr (h' ξ μ H S x y v u z Q s rx ry e k)
noncomputable abbrev gSub := gI fun i j => .int (i - j)
noncomputable abbrev gLt := gI fun i j => .bl (decide (i < j))
noncomputable abbrev gLe := gI fun i j => .bl (decide (i ≤ j))
noncomputable abbrev gGt := gI fun i j => .bl (decide (j < i))
noncomputable abbrev gGe := gI fun i j => .bl (decide (j ≤ i))
instance : ∀ i j, Decidable (CMulW i j) := fun i j => inferInstanceAs (Decidable (_ < _))
instance : ∀ i j, Decidable (CDivW i j) := fun i j => inferInstanceAs (Decidable (_ ∧ _))
instance : ∀ i j, Decidable (CPow i j) := fun i j => inferInstanceAs (Decidable (_ ∧ _ ∧ _))
noncomputable abbrev gMul := gIC CMulW fun i j => .int (i * j)
noncomputable abbrev gFdiv := gIC CDivW fun i j => .int (i / j)
noncomputable abbrev gMod := gIC (fun _ j => 0 < j) fun i j => .int (i % j)
noncomputable abbrev gPow := gIC CPow fun i j => .int (i ^ j.toNat)
theorem o_sub : OpD X (rI0 fun i j => .int (i - j)) gSub := opd_I0 fun _ _ _ _ _ => .int _
theorem o_lt : OpD X (rI0 fun i j => .bl (decide (i < j))) gLt := opd_I0 fun _ _ _ _ _ => .bl _
theorem o_le : OpD X (rI0 fun i j => .bl (decide (i ≤ j))) gLe := opd_I0 fun _ _ _ _ _ => .bl _
theorem o_gt : OpD X (rI0 fun i j => .bl (decide (j < i))) gGt := opd_I0 fun _ _ _ _ _ => .bl _
theorem o_ge : OpD X (rI0 fun i j => .bl (decide (j ≤ i))) gGe := opd_I0 fun _ _ _ _ _ => .bl _
theorem o_mul : OpD X (rI CMulW fun i j => .int (i * j)) gMul := opd_I fun _ _ _ _ _ => .int _
theorem o_fdiv : OpD X (rI CDivW fun i j => .int (i / j)) gFdiv := opd_I fun _ _ _ _ _ => .int _
theorem o_mod : OpD X (rI (fun _ j => 0 < j) fun i j => .int (i % j)) gMod := opd_I fun _ _ _ _ _ => .int _
theorem o_pow : OpD X (rI CPow fun i j => .int (i ^ j.toNat)) gPow := opd_I fun _ _ _ _ _ => .int _
noncomputable def gCatT : Sto → D → D → Option D := fun _ x y => match x, y with
  | .tup a, .tup b => if a.length + b.length ≤ 16777216 then some (.tup (a ++ b)) else none
  | _, _ => none
noncomputable def gAdd : Sto → D → D → Option D := fun S x y => (gI (fun i j => .int (i + j)) S x y).or (gCatT S x y)
theorem o_catT : OpD X (rCatF X.K) gCatT := by
  intro ξ μ H S x y v u z Q s rx ry e k
  cases rx with
  | @tup a xs ds f r =>
    cases ry with
    | @tup b ys es f' r' =>
      unfold gCatT at e
      by_cases c : ds.length + es.length ≤ 16777216
      · simp only [if_pos c] at e
        cases e
        refine ⟨a, b, xs, ys, rfl, rfl, f.sq, f'.sq, by rw [r.length, r'.length, sizeLine_eq]; exact c, fun e => ?_, fun _ e => ?_, fun _ _ p o hp ho => ?_⟩
        · subst e
          have e' : ds = [] := List.eq_nil_of_length_eq_zero r.length.symm
          subst e'
          exact k _ μ H .refl s (.tup f' r')
        · subst e
          have e' : es = [] := List.eq_nil_of_length_eq_zero r'.length.symm
          subst e'
          rw [List.append_nil] at k
          exact k _ μ H .refl s (.tup f r)
        · exact k _ μ _ (.fresh hp) (s.fresh hp) (.tup (.inl ⟨.new ho, s.out hp, s.outX hp⟩) ((r.append r').up (.fresh hp)))
      · simp only [if_neg c] at e
        exact nomatch e
    | _ => exact nomatch e
  | _ => exact nomatch e
theorem op_addD : OpR X (binaryOp .Add) (fun x y H Q => rI0 (fun i j => .int (i + j)) x y H Q ∨ rCatF X.K x y H Q) := op_add.or op_catF
theorem o_add : OpD X (fun x y H Q => rI0 (fun i j => .int (i + j)) x y H Q ∨ rCatF X.K x y H Q) gAdd := (opd_I0 fun _ _ _ _ _ => .int _).or o_catT
noncomputable def gNeg : Sto → D → Option D := fun _ x => match x with
  | .int i => some (.int (-i))
  | _ => none
theorem o_neg : UnD X (rU fun i => .int (-i)) gNeg := by
  intro ξ μ H S x v z Q s rx e k
  cases rx with
  | int i =>
    cases e
    exact ⟨i, rfl, k _ μ H .refl s (.int _)⟩
  | _ => exact nomatch e
mutual
noncomputable def toPy : D → Option PyData
  | .non => some .none
  | .bl b => some (.bool b)
  | .int i => some (.int i)
  | .str x => some (.str x)
  | .tup ds => (toPys ds).map .tuple
  | .lst ds => (toPys ds).map .list
  | .cell _ => none
  | .glo _ => none
  | .exn _ _ => none
noncomputable def toPys : List D → Option (List PyData)
  | [] => some []
  | d :: ds => (toPy d).bind fun p => (toPys ds).map fun ps => p :: ps
end
noncomputable def toPyS (S : Sto) (d : D) : Option PyData := match d with
  | .cell n => match S[n]? with
    | some (.lst ds) => (toPys ds).map .list
    | _ => none
  | d => toPy d
section
variable {F : Fx} {μ : List Addr} {H : Hp} {S : Sto}
mutual
theorem dp_of : ∀ {v : V} (d : D) {p : PyData}, RD F μ H v d → toPy d = some p → Dp F.K H v p
  | _, .non, p, r, e => by cases r; cases e; exact .non
  | _, .bl b, p, r, e => by cases r; cases e; exact .bl b
  | _, .int i, p, r, e => by cases r; cases e; exact .int i
  | _, .str x, p, r, e => by cases r; cases e; exact .str x
  | _, .tup ds, p, r, e => by
    cases r with
    | tup f r =>
      unfold toPy at e
      cases q : toPys ds with
      | none => rw [q] at e; exact nomatch e
      | some ps =>
        rw [q] at e; cases e
        exact .tup f.sq (dps_of ds r q)
  | _, .lst ds, p, r, e => by
    cases r with
    | lst f r =>
      unfold toPy at e
      cases q : toPys ds with
      | none => rw [q] at e; exact nomatch e
      | some ps =>
        rw [q] at e; cases e
        exact .lst f.sq (dps_of ds r q)
  | _, .cell _, p, r, e => nomatch e
  | _, .glo _, p, r, e => nomatch e
  | _, .exn _ _, p, r, e => nomatch e
theorem dps_of : ∀ {vs : List V} (ds : List D) {ps : List PyData}, RDs F μ H vs ds → toPys ds = some ps → DpAll F.K H vs ps
  | _, [], ps, r, e => by cases r; cases e; exact .nil
  | _, d :: ds, ps, r, e => by
    cases r with
    | cons a b =>
      unfold toPys at e
      cases q : toPy d with
      | none => rw [q] at e; exact nomatch e
      | some p =>
        rw [q] at e
        cases q' : toPys ds with
        | none => rw [q'] at e; exact nomatch e
        | some ps' =>
          rw [q'] at e; cases e
          exact .cons (dp_of d a q) (dps_of ds b q')
end
theorem dpS_of {v : V} {d : D} {p : PyData} (s : RS F μ H S) (r : RD F μ H v d) (e : toPyS S d = some p) : Dp F.K H v p := by
  cases d with
  | cell n =>
    unfold toPyS at e
    cases r with
    | @cell a _ ea =>
      cases q : S[n]? with
      | none => simp only [q] at e; exact nomatch e
      | some c =>
        simp only [q] at e
        cases c with
        | lst ds =>
          cases q' : toPys ds with
          | none => simp only [q'] at e; exact nomatch e
          | some ps =>
            simp only [q'] at e; cases e
            obtain ⟨xs, h1, h2⟩ := s.at_ n a _ ea q
            exact .lst (SqL.of h1) (dps_of ds h2 q')
        | _ => exact nomatch e
  | _ => exact dp_of _ r e
end
noncomputable def eqD (S : Sto) (x y : D) : Option Bool := match x, y with
  | .int i, .int j => some (i == j)
  | .str i, .str j => some (i == j)
  | x, y => match toPyS S x, toPyS S y with
    | some p, some q => if SeqAt.shaped p = true ∧ SeqAt.shaped q = true then some (PyData.eqv p q) else none
    | _, _ => none
theorem eqD_cases {S : Sto} {x y : D} {b : Bool} (h : eqD S x y = some b) : (∃ i j, x = .int i ∧ y = .int j ∧ b = (i == j)) ∨ (∃ i j, x = .str i ∧ y = .str j ∧ b = (i == j)) ∨
    ∃ p q, toPyS S x = some p ∧ toPyS S y = some q ∧ SeqAt.shaped p = true ∧ SeqAt.shaped q = true ∧ b = PyData.eqv p q := by
  unfold eqD at h
  split at h
  · cases h; exact .inl ⟨_, _, rfl, rfl, rfl⟩
  · cases h; exact .inr (.inl ⟨_, _, rfl, rfl, rfl⟩)
  · split at h
    · rename_i p q hp hq
      split at h
      · rename_i hs
        cases h
        exact .inr (.inr ⟨p, q, hp, hq, hs.1, hs.2, rfl⟩)
      · exact nomatch h
    · exact nomatch h
noncomputable def gEq : Sto → D → D → Option D := fun S x y => (eqD S x y).map .bl
noncomputable def gNe : Sto → D → D → Option D := fun S x y => (eqD S x y).map fun b => .bl (!b)
noncomputable def rEqA (K : Frag) : R2 := fun x y H Q => rEq x y H Q ∨ rEqD K x y H Q
noncomputable def rNeA (K : Frag) : R2 := fun x y H Q => rNe x y H Q ∨ rNeD K x y H Q
theorem op_eqA (hu : X.A.units + 64 < cLine) : OpR X (compareOp .Eq) (rEqA X.K) := op_eq.or (op_eqD hu)
theorem op_neA (hu : X.A.units + 64 < cLine) : OpR X (compareOp .NotEq) (rNeA X.K) := op_ne.or (op_neD hu)
theorem o_eq : OpD X (rEqA X.K) gEq := by
  intro ξ μ H S x y v u z Q s rx ry e k
  unfold gEq at e
  cases q : eqD S x y with
  | none => rw [q] at e; exact nomatch e
  | some b =>
    rw [q] at e; cases e
    rcases eqD_cases q with ⟨i, j, rfl, rfl, rfl⟩ | ⟨i, j, rfl, rfl, rfl⟩ | ⟨p, q', h1, h2, h3, h4, rfl⟩
    · cases rx; cases ry
      exact .inl ⟨rfl, by rw [dec_int]; exact k _ μ H .refl s (.bl _)⟩
    · cases rx; cases ry
      exact .inl ⟨rfl, by rw [dec_str]; exact k _ μ H .refl s (.bl _)⟩
    · exact .inr ⟨p, q', dpS_of s rx h1, dpS_of s ry h2, h3, h4, k _ μ H .refl s (.bl _)⟩
theorem o_ne : OpD X (rNeA X.K) gNe := by
  intro ξ μ H S x y v u z Q s rx ry e k
  unfold gNe at e
  cases q : eqD S x y with
  | none => rw [q] at e; exact nomatch e
  | some b =>
    rw [q] at e; cases e
    rcases eqD_cases q with ⟨i, j, rfl, rfl, rfl⟩ | ⟨i, j, rfl, rfl, rfl⟩ | ⟨p, q', h1, h2, h3, h4, rfl⟩
    · cases rx; cases ry
      exact .inl ⟨rfl, by rw [dec_int]; exact k _ μ H .refl s (.bl _)⟩
    · cases rx; cases ry
      exact .inl ⟨rfl, by rw [dec_str]; exact k _ μ H .refl s (.bl _)⟩
    · exact .inr ⟨p, q', dpS_of s rx h1, dpS_of s ry h2, h3, h4, k _ μ H .refl s (.bl _)⟩
noncomputable def flatD : D → Bool
  | .non => true
  | .bl _ => true
  | .int _ => true
  | .str _ => true
  | _ => false
noncomputable def eqF : D → D → Bool
  | .non, .non => true
  | .bl a, .bl b => a == b
  | .bl a, .int b => (if a then 1 else 0) == b
  | .int a, .bl b => a == (if b then 1 else 0)
  | .int a, .int b => a == b
  | .str a, .str b => a == b
  | _, _ => false
theorem flat_of {F : Fx} {μ : List Addr} {H : Hp} {v : V} {d : D} (r : RD F μ H v d) : flatV v = flatD d := by cases r <;> rfl
theorem eqF_of {F : Fx} {μ : List Addr} {H : Hp} {v u : V} {d e : D} (r : RD F μ H v d) (r' : RD F μ H u e) : eqV v u = eqF d e := by cases r <;> cases r' <;> rfl
theorem flats_of {F : Fx} {μ : List Addr} {H : Hp} : ∀ {vs : List V} {ds : List D}, RDs F μ H vs ds → vs.all flatV = ds.all flatD
  | _, [], r => by cases r; rfl
  | _, d :: ds, r => by
    cases r with
    | cons a b => rw [List.all_cons, List.all_cons, flat_of a, flats_of b]
theorem anyF_of {F : Fx} {μ : List Addr} {H : Hp} {u : V} {e : D} (r' : RD F μ H u e) : ∀ {vs : List V} {ds : List D}, RDs F μ H vs ds → inV u vs = ds.any (eqF · e)
  | _, [], r => by cases r; rfl
  | _, d :: ds, r => by
    cases r with
    | cons a b =>
      have q := anyF_of r' b
      unfold inV at q ⊢
      rw [List.any_cons, List.any_cons, eqF_of a r', q]
noncomputable def gIn (neg : Bool) : Sto → D → D → Option D := fun S x y => match seqOf S y with
  | some ds => if flatD x = true ∧ ds.all flatD = true then some (.bl (if neg then !ds.any (eqF · x) else ds.any (eqF · x))) else none
  | none => none
theorem o_in {neg : Bool} : OpD X (rIn X.K neg) (gIn neg) := by
  intro ξ μ H S x y v u z Q s rx ry e k
  unfold gIn at e
  cases q : seqOf S y with
  | none => rw [q] at e; exact nomatch e
  | some ds =>
    rw [q] at e
    by_cases c : flatD x = true ∧ ds.all flatD = true
    · simp only [if_pos c] at e
      cases e
      obtain ⟨a, xs, rfl, h1, h2⟩ := RD.seqS s ry q
      refine ⟨a, xs, rfl, h1, by rw [flat_of rx]; exact c.1, by rw [flats_of h2]; exact c.2, ?_⟩
      rw [anyF_of rx h2]
      exact k _ μ H .refl s (.bl _)
    · simp only [if_neg c] at e
      exact nomatch e
noncomputable def isNon : D → Bool
  | .non => true
  | _ => false
noncomputable def gIsN (neg : Bool) : Sto → D → D → Option D := fun _ x y => match y with
  | .non => some (.bl (if neg then !isNon x else isNon x))
  | _ => none
end
noncomputable def mChain (g g' : Sto → D → D → Option D) (a b c : ME) : ME := fun ρ S => (a ρ S).bind fun x S1 => (b ρ S1).bind fun y S2 => match g S2 x y with
  | some (.bl true) => (c ρ S2).bind fun z S3 => match g' S3 y z with
    | some w => .ok w S3
    | none => .bad
  | some (.bl false) => .ok (.bl false) S2
  | _ => .bad
section
variable {X : Cx} {W : WX} {e a b c : Expr} {es : List Expr} {ma mb mc m : ME} {mr : MA} {pos : Pos}
theorem chain2 {r r' : R2} {g g' : Sto → D → D → Option D} {ta tb tc : TE} {ξ μ : List Addr} {σ : St} {H : Hp} {ρ : Rho} {S : Sto} {Q : VK} (hd : OpD X r g) (hd' : OpD X r' g')
    (ka : ∀ ξ μ σ H ρ S Q, RG (fx X ξ) μ H σ ρ → RS (fx X ξ) μ H S → WE' (fx X ξ) (ma ρ S) Q (fun cls dd H' => W cls dd σ H') μ H → ta σ H Q)
    (kb : ∀ ξ μ σ H ρ S Q, RG (fx X ξ) μ H σ ρ → RS (fx X ξ) μ H S → WE' (fx X ξ) (mb ρ S) Q (fun cls dd H' => W cls dd σ H') μ H → tb σ H Q)
    (kc : ∀ ξ μ σ H ρ S Q, RG (fx X ξ) μ H σ ρ → RS (fx X ξ) μ H S → WE' (fx X ξ) (mc ρ S) Q (fun cls dd H' => W cls dd σ H') μ H → tc σ H Q)
    (g0 : RG (fx X ξ) μ H σ ρ) (s : RS (fx X ξ) μ H S) (h : WE' (fx X ξ) (mChain g g' ma mb mc ρ S) Q (fun cls dd H' => W cls dd σ H') μ H) : tChain r r' ta tb tc σ H Q := by
  refine ka ξ μ σ H ρ S _ g0 s (WR.bind h fun x S1 v μ1 H1 u1 s1 r1 h1 => ?_)
  refine kb ξ μ1 σ H1 ρ S1 _ (g0.up u1) s1 (WR.bind h1 fun y S2 v2 μ2 H2 u2 s2 r2 h2 => ?_)
  cases e : g S2 x y with
  | none => rw [e] at h2; exact h2.elim
  | some z =>
    rw [e] at h2
    refine hd ξ μ2 H2 S2 x y v v2 z _ s2 (r1.up u2) r2 e fun w μ' H' u' s' r' => ?_
    cases r' with
    | bl k =>
      refine ⟨k, rfl, ?_⟩
      cases k with
      | false => exact h2 _ μ' H' u' s' (.bl false)
      | true =>
        refine kc ξ μ' σ H' ρ S2 _ (g0.up (u1.trans (u2.trans u'))) s' (WR.bind (WR.shift u' h2) fun z S3 v3 μ3 H3 u3 s3 r3 h3 => ?_)
        cases e3 : g' S3 y z with
        | none => rw [e3] at h3; exact h3.elim
        | some w =>
          rw [e3] at h3
          exact hd' ξ μ3 H3 S3 y z v2 v3 w Q s3 (r2.up (u'.trans u3)) r3 e3 h3
    | _ => exact h2.elim
theorem d_chain {op op' : CmpOp} {r r' : R2} {g g' : Sto → D → D → Option D} (ho : OpR X (compareOp op) r) (ho' : OpR X (compareOp op') r') (hd : OpD X r g) (hd' : OpD X r' g') (ha : DE X W a ma) (hb : DE X W b mb) (hc : DE X W c mc)
    (hm : lastMarks [op, op'] [b, c] = false := by with_unfolding_all rfl) : DE X W (.Compare a [op, op'] [b, c] pos) (mChain g g' ma mb mc) := by
  obtain ⟨ta, pa, ka⟩ := ha
  obtain ⟨tb, pb, kb⟩ := hb
  obtain ⟨tc, pc, kc⟩ := hc
  exact ⟨_, pe_chain ho ho' pa pb pc hm, fun ξ μ σ H ρ S Q g0 s h => chain2 hd hd' ka kb kc g0 s h⟩
theorem dt_chain {op op' : CmpOp} {r r' : R2} {g g' : Sto → D → D → Option D} (ho : OpR X (compareOp op) r) (ho' : OpR X (compareOp op') r') (hd : OpD X r g) (hd' : OpD X r' g') (ha : DE X W a ma) (hb : DE X W b mb) (hc : DE X W c mc)
    (hm : lastMarks [op, op'] [b, c] = false := by with_unfolding_all rfl) : DT X W (.Compare a [op, op'] [b, c] pos) (mChain g g' ma mb mc) := by
  obtain ⟨ta, pa, ka⟩ := ha
  obtain ⟨tb, pb, kb⟩ := hb
  obtain ⟨tc, pc, kc⟩ := hc
  exact ⟨_, pt_chain ho ho' pa pb pc hm, fun ξ μ σ H ρ S Q g0 s h => chain2 hd hd' ka kb kc g0 s (WT'.val h)⟩
noncomputable def gIx : Sto → D → D → Option D := fun S x i => match i with
  | .int k => match x with
    | .str z => if z.length ≤ 16777216 then (atI z.cps.toList k).map fun c => .str ⟨#[c]⟩ else none
    | x => (seqOf S x).bind fun ds => atI ds k
  | _ => none
theorem o_ix : OpD X (rIx X.K) gIx := by
  intro ξ μ H S x y v u z Q s rx ry e k
  unfold gIx at e
  cases ry with
  | int i =>
    have main : ∀ ds, seqOf S x = some ds → atI ds i = some z → rIx X.K v (.int i) H Q := fun ds h1 h2 => by
      obtain ⟨a, xs, rfl, h3, h4⟩ := RD.seqS s rx h1
      obtain ⟨w, h5, h6⟩ := h4.atI h2
      rcases h3 with h3 | h3
      · exact .inl ⟨a, xs, i, w, rfl, rfl, h3, h5, k w μ H .refl s h6⟩
      · exact .inr (.inl ⟨a, xs, i, w, rfl, rfl, h3, h5, k w μ H .refl s h6⟩)
    cases rx with
    | str z =>
      simp only at e
      by_cases c : z.length ≤ 16777216
      · rw [if_pos c] at e
        cases q : atI z.cps.toList i with
        | none => rw [q] at e; exact nomatch e
        | some w =>
          rw [q] at e; cases e
          exact .inr (.inr ⟨z, i, w, rfl, rfl, by rw [sizeLine_eq]; exact c, q, k _ μ H .refl s (.str _)⟩)
      · rw [if_neg c] at e; exact nomatch e
    | tup f r =>
      exact main _ rfl e
    | @lst _ _ ds f r => exact main ds rfl e
    | @cell a n ea =>
      simp only at e
      cases q : seqOf S (.cell n) with
      | none => rw [q] at e; exact nomatch e
      | some ds => rw [q] at e; exact main ds q e
    | _ => exact nomatch e
  | _ => exact nomatch e
theorem d_ix {r : R2} {g : Sto → D → D → Option D} (hr : IxR X r) (hd : OpD X r g) (ha : DE X W a ma) (hb : DE X W b mb) (hs : PlainIx b := by exact fun _ _ => rfl) : DE X W (.Subscript a b pos) (mOp g ma mb) := by
  obtain ⟨ta, pa, ka⟩ := ha
  obtain ⟨tb, pb, kb⟩ := hb
  exact ⟨_, pe_ix hr pa pb hs, fun ξ μ σ H ρ S Q g0 s h => op2 (ξ := ξ) hd ka kb g0 s h⟩
abbrev MO := Rho → Sto → Res (Option Int)
structure DO (X : Cx) (W : WX) (e : Option Expr) (m : MO) : Prop where
  ex : ∃ te, PO X e te ∧ ∀ ξ μ σ H ρ S Q, RG (fx X ξ) μ H σ ρ → RS (fx X ξ) μ H S → WR (fx X ξ) (fun _ _ (o : Option Int) o' => o = o') (m ρ S) Q (fun cls dd H' => W cls dd σ H') μ H → te σ H Q
noncomputable def mPart (m : ME) : MO := fun ρ S => (m ρ S).bind fun x S1 => match x with
  | .int i => .ok (some i) S1
  | _ => .bad
noncomputable def mNoPart : MO := fun _ S => .ok none S
theorem do_none : DO X W none mNoPart := ⟨_, po_none, fun ξ μ σ H ρ S Q g s h => h none μ H .refl s rfl⟩
theorem do_some (h : DE X W e m) : DO X W (some e) (mPart m) := by
  obtain ⟨te, p, k⟩ := h
  refine ⟨_, po_some p, fun ξ μ σ H ρ S Q g s h => k ξ μ σ H ρ S _ g s (WR.bind h fun x S1 v μ1 H1 u1 s1 r1 h1 => ?_)⟩
  cases r1 with
  | int i => exact ⟨i, rfl, h1 _ μ1 H1 .refl s1 rfl⟩
  | _ => exact h1.elim
noncomputable def cutD (ds : List D) (lo hi : Option Int) : List D := (ds.drop (HT.sIx ds.length 0 lo)).take (HT.sIx ds.length ds.length hi - HT.sIx ds.length 0 lo)
theorem cut_of {F : Fx} {μ : List Addr} {H : Hp} {vs : List V} {ds : List D} {lo hi : Option Int} (r : RDs F μ H vs ds) : RDs F μ H (cutV vs lo hi) (cutD ds lo hi) := by
  unfold cutV cutD
  rw [r.length]
  exact (r.drop _).take _
noncomputable def mSlT (a : ME) (lo hi : MO) : ME := fun ρ S => (a ρ S).bind fun x S1 => (lo ρ S1).bind fun l S2 => (hi ρ S2).bind fun h S3 => match x with
  | .tup ds => .ok (.tup (cutD ds l h)) S3
  | _ => .bad
noncomputable def mSlL (a : ME) (lo hi : MO) : MA := fun ρ S => (a ρ S).bind fun x S1 => (lo ρ S1).bind fun l S2 => (hi ρ S2).bind fun h S3 => match lstOf S3 x with
  | some ds => .ok (cutD ds l h) S3
  | none => .bad
variable {lo hi : Option Expr} {ml mh : MO} {p2 : Pos}
theorem cut_whole {ds : List D} {lo hi : Option Int} (h : HT.sIx ds.length 0 lo = 0 ∧ HT.sIx ds.length ds.length hi = ds.length) : cutD ds lo hi = ds := by
  unfold cutD
  rw [h.1, h.2, List.drop_zero, Nat.sub_zero, List.take_length]
theorem d_slT (ha : DE X W a ma) (hl : DO X W lo ml) (hh : DO X W hi mh) : DE X W (.Subscript a (.Slice lo hi none p2) pos) (mSlT ma ml mh) := by
  obtain ⟨ta, pa, ka⟩ := ha
  obtain ⟨tl, pl, kl⟩ := hl
  obtain ⟨th, ph, kh⟩ := hh
  refine ⟨_, pe_slice sl_tupF pa pl ph, fun ξ μ σ H ρ S Q g s h => ka ξ μ σ H ρ S _ g s (WR.bind h fun x S1 v μ1 H1 u1 s1 r1 h1 => ?_)⟩
  refine kl ξ μ1 σ H1 ρ S1 _ (g.up u1) s1 (WR.bind h1 fun l S2 l' μ2 H2 u2 s2 r2 h2 => ?_)
  subst r2
  refine kh ξ μ2 σ H2 ρ S2 _ (g.up (u1.trans u2)) s2 (WR.bind h2 fun u S3 u' μ3 H3 u3 s3 r3 h3 => ?_)
  subst r3
  have rx := r1.up (u2.trans u3)
  cases rx with
  | @tup a xs ds f r =>
    refine ⟨a, xs, rfl, f.sq, fun hw => ?_, fun _ p o hp ho => ?_⟩
    · rw [r.length] at hw
      have e := cut_whole hw
      exact h3 _ μ3 H3 .refl s3 (by rw [e]; exact .tup f r)
    · exact h3 _ μ3 _ (.fresh hp) (s3.fresh hp) (.tup (.inl ⟨.new ho, s3.out hp, s3.outX hp⟩) ((cut_of r).up (.fresh hp)))
  | _ => exact h3.elim
theorem dl_slL (ha : DE X W a ma) (hl : DO X W lo ml) (hh : DO X W hi mh) : DL X W (.Subscript a (.Slice lo hi none p2) pos) (mSlL ma ml mh) := by
  obtain ⟨ta, pa, ka⟩ := ha
  obtain ⟨tl, pl, kl⟩ := hl
  obtain ⟨th, ph, kh⟩ := hh
  refine ⟨_, pe_slice sl_list pa pl ph, fun ξ μ σ H ρ S Q g s h => ka ξ μ σ H ρ S _ g s (WL'.bind h fun x S1 v μ1 H1 u1 s1 r1 h1 => ?_)⟩
  refine kl ξ μ1 σ H1 ρ S1 _ (g.up u1) s1 (WL'.bind h1 fun l S2 l' μ2 H2 u2 s2 r2 h2 => ?_)
  subst r2
  refine kh ξ μ2 σ H2 ρ S2 _ (g.up (u1.trans u2)) s2 (WL'.bind h2 fun u S3 u' μ3 H3 u3 s3 r3 h3 => ?_)
  subst r3
  have rx := r1.up (u2.trans u3)
  cases e : lstOf S3 x with
  | none => rw [e] at h3; exact h3.elim
  | some ds =>
    rw [e] at h3
    obtain ⟨a, xs, rfl, h4, h5⟩ := RD.lstS s3 rx e
    exact ⟨a, xs, rfl, h4, fun p hp => h3 p _ μ3 _ (.fresh hp) hp (s3.holds hp) ((cut_of h5).mv (.holds hp)) upd_same⟩
end
end Dm
namespace Dm
open PySem L2 PySem.Spec PyProof.Rows
open PySem.W (Frag)
section
variable {prog : Program} {w : World} {A : Around} {E : Value → Shared → Prop} {s : Shared} {K : Frag} {x D : Addr} {ox : Obj} {od : Option Obj}
open PySem.W in
theorem findObj_dataO {C : Addr} {name : Str} {a g : Value} (hc : (clsIn K C).isSome = true) (ha : findIn K (.ref C) name = some (some a)) (hg : specialIn K a "__get__" = some (some g)) (ht : takesIn K a = some true) : findObj K C od name = some (.bind g a) := by
  obtain ⟨cd, hc⟩ := Option.isSome_iff_exists.mp hc
  unfold findObj
  rw [hc, Option.bind_some, ha, Option.bind_some]
  simp [hg, ht]
open PySem.W PySem.Calls in
theorem kin_classO {Q : Option Value → Shared → Prop} (hga : findIn K (.ref D) "__getattribute__" = some (some (.builtin "BaseException.__getattribute__"))) (hgt : findIn K (.ref D) "__getattr__" = some none) (hsub : subIn K (.ref D) (.type "BaseException") = some true)
    (hdct : hasDictIn K D = true) (ha : findIn K (.ref D) "__class__" = some (some (.builtin "object.__class__")))
    (hn : specialIn K (.builtin "object.__class__") "__get__" = some (some (.builtin "getset_descriptor.__get__"))) (htk : takesIn K (.builtin "object.__class__") = some true) (hm : mroIn K D (.type "object") = some true)
    (X : K.In s.heap) (I : InstAt s.heap x ox D od) (h : Q (some (.ref D)) { s with toks := s.toks + 1 }) : wpAny (model prog w) A (getAttr? (.ref x) "__class__") Q E s := by
  have hf : findObj K D od "__class__" = some (.bind (.builtin "getset_descriptor.__get__") (.builtin "object.__class__")) := findObj_dataO (by obtain ⟨cd, hc, _⟩ := any_some hdct; rw [hc]; rfl) ha hn htk
  obtain ⟨hp, g, d, t, os⟩ := s
  have L0 := I.type (M := model prog w)
  have L1 := looks_findIn (M := model prog w) X hga
  have L2 := looks_findIn (M := model prog w) X hgt
  have L3 := looks_find (M := model prog w) X I hf
  have sub : Looks (model prog w) hp (isInstance (.ref x) (.type "BaseException")) true := L0.andThen (looks_subIn X hsub)
  have hx0 : (false && onTheHeap (Value.builtin "BaseException.__getattribute__")) = false := rfl
  have hx2 : (Value.builtin "BaseException.__getattribute__" == Value.builtin "object.__getattribute__") = false := by decide +kernel
  have hx1 : (onTheHeap (Value.ref D) && Value.builtin "BaseException.__getattribute__" == Value.builtin "object.__getattribute__") = false := by rw [hx2]; rfl
  unfold getAttr? getAttrBy? getAttrBy
  refine wpAny_bind (wpAny_mkText (wpAny_bind (wpAny_attempt (wpAny_holding (wpAny_bind (L0.at (wpAny_bind (L1.at ?_))))))))
  show wpAny _ _ (if (onTheHeap (Value.ref D) && Value.builtin "BaseException.__getattribute__" == Value.builtin "object.__getattribute__") = true then _ else _) _ _ _
  rw [hx1, if_neg Bool.false_ne_true]
  unfold getAttrByItsOwn hookBefore
  refine wpAny_bind ?_
  rw [if_pos (show onTheHeap (Value.ref D) = true from rfl)]
  refine L2.at ?_
  refine wpAny_bind (wpAny_attempt (wpAny_holding ?_))
  unfold callGetattribute
  rw [hx0, if_neg Bool.false_ne_true]
  unfold boundAndCalled
  rw [PySem.F.excAttr_ValueError.ga.bind (.ref x)]
  refine wpAny_bind (wpAny_pure ?_)
  show wpAny _ _ (call (.builtin "BaseException.__getattribute__") [.ref x, .str "__class__" t]) _ _ _
  refine wpAny_call (codeAny_call_builtin PySem.F.excAttr_ValueError.ga.plain PySem.F.entry_bexc_ga ?_)
  refine @check_slot (model prog w) _ _ ⟨hp, g, d, t + 1, os⟩ "BaseException.__getattribute__" "BaseException" "__getattribute__" (.ref x) [.str "__class__" t] [] _ (by decide +kernel) (by decide +kernel) sub (PySem.F.args_bexc_ga (.ref x) (.str "__class__" t)) ?_
  unfold Builtin.«object.__getattribute__»
  refine wpAny_bind (wpAny_of_eq (a := ((Value.ref x : Value), [Value.str "__class__" t])) (by first | rfl | (simp only [slotArgs]; rfl)) ?_)
  refine wpAny_bind (wpAny_pure (wpAny_bind (L0.at (wpAny_bind (L3.at ?_)))))
  show wpAny _ _ (holding [Value.builtin "object.__class__"] (call (.builtin "getset_descriptor.__get__") [.builtin "object.__class__", .ref x, .ref D]) >>= ret) _ _ _
  refine wpAny_bind (wpAny_holding (wpAny_call (class_get (s := ⟨hp, g, d, t + 1, os⟩) (ox := ox) (od := od) X I hm ?_)))
  refine wpAny_pure ?_
  show wpAny _ _ (handedOut (.ref D)) _ _ _
  rw [handedOut_of (v := .ref D) rfl]
  first
    | exact wpAny_pure (wpAny_pure h)
    | exact wpAny_pure h
    | exact wpAny_pure (wpAny_bind (wpAny_pure (wpAny_pure h)))
open PySem.W in
theorem kitx_excO (C : ExcC K D) : KitX K (.ref x) (.ref D) (fun h => InstAt h x ox D od) where
  ty := fun _ _ _ I => I.type
  it := fun _ _ X _ => by
    obtain ⟨cdD, hcD, _⟩ := any_some C.hd
    unfold clsIn at hcD
    split at hcD
    · rename_i c' d' cd' sl' ho
      intro A' Q' E' s' k q
      unfold isType loadHead
      exact wpAny_bind (wpAny_loadPart (k _ _ (X _ _ ho)) (wpAny_pure q))
    · cases hcD
  ne := (handS_kitx_exc (x := x) (ox := ox) C.hg C.hk C.hs C.hd C.ha C.hn C.ht C.hm).ne
  ca := fun X I k => kin_classO C.hg C.hk C.hs C.hd C.ha C.hn C.ht C.hm X I k
end
noncomputable def rIsV (K : Frag) : List V → Hp → VK → Prop := fun xs H Q => ∃ (a D : Addr) (dd : Option Addr) (c : V) (cv : Value) (b : Bool), xs = [.ref a, c] ∧ IsX H a (.ref D) dd ∧ ExcC K D ∧ (dd = none ∨ ∃ d fs, dd = some d ∧ H d = some (.xd fs)) ∧
  (∀ u, RelV c u → u = cv) ∧ PySem.W.kitOne K (.ref D) cv = some b ∧ Q (.bl b) H
theorem call_isV {X : Cx} : CallR X (.builtin "isinstance") (rIsV X.K) := by
  intro pins s σ H xs us Q I r h
  obtain ⟨a, D, dd, c, cv, b, rfl, ea, C, ed, hcv, e, q⟩ := h
  cases r with
  | cons rx rr =>
    cases rr with
    | cons rt rr =>
      cases rr
      cases rx
      have ec := hcv _ rt
      subst ec
      obtain ⟨oe, vs, hget, hz, hv⟩ := ea.obj I.hok
      have J : ∃ od, PySem.W.InstAt s.heap a oe D od := by
        rcases ed with rfl | ⟨d, fs, rfl, ed⟩
        · exact ⟨none, hget, hz.1, by unfold PySem.W.notCls; rw [hv] <;> rfl, by rw [hz.2]; trivial⟩
        · have hx : ObjOk X.prog X.w H s.heap d (.xd fs) := I.hok d _ ed
          obtain ⟨mA, hns, hr⟩ := hx
          obtain ⟨od, ho, hl⟩ := lookIn_ns hns
          exact ⟨some od, hget, hz.1, by unfold PySem.W.notCls; rw [hv] <;> rfl, by rw [hz.2]; exact ho⟩
      obtain ⟨od, J⟩ := J
      exact PySem.W.kia_one (kitx_excO C) I.kIn J e (fun z => nomatch z) fun tk => ⟨.bl b, H, I.kept (t' := tk) fun _ _ z => z, rfl, q⟩
theorem call_or {X : Cx} {f : Value} {r1 r2 : List V → Hp → VK → Prop} (h1 : CallR X f r1) (h2 : CallR X f r2) : CallR X f (fun xs H Q => r1 xs H Q ∨ r2 xs H Q) :=
  fun pins s σ H xs us Q I r h => h.elim (h1 pins s σ H xs us Q I r) (h2 pins s σ H xs us Q I r)
end Dm
namespace Dm
open PySem L2
open PySem.W (Frag)
inductive Tn where | non | bl | int | str | tup | lst | dic | exn
  deriving DecidableEq
noncomputable def tnName : Tn → String
  | .non => "NoneType" | .bl => "bool" | .int => "int" | .str => "str" | .tup => "tuple" | .lst => "list" | .dic => "dict" | .exn => "BaseException"
noncomputable def isTn : Tn → Tn → Bool
  | .bl, .int => true
  | a, b => decide (a = b)
theorem kit_tn (a b : Tn) (h : b ≠ .non) (h2 : b ≠ .exn) (h3 : a ≠ .exn) : kitB (tnName a) (tnName b) = some (isTn a b) := by
  cases b <;> first | exact absurd rfl h | exact absurd rfl h2 | (cases a <;> first | exact absurd rfl h3 | decide +kernel)
noncomputable def tyOf (S : Sto) : D → Option Tn
  | .non => some .non
  | .bl _ => some .bl
  | .int _ => some .int
  | .str _ => some .str
  | .tup _ => some .tup
  | .lst _ => some .lst
  | .cell n => match S[n]? with
    | some (.lst _) => some .lst
    | some (.dic _) => some .dic
    | some (.obj _ _) => some .exn
    | _ => none
  | .glo _ => none
  | .exn _ _ => some .exn
theorem tyX_of {F : Fx} {μ : List Addr} {H : Hp} {S : Sto} {v : V} {d : D} {t : Tn} (s : RS F μ H S) (r : RD F μ H v d) (e : tyOf S d = some t) (ht : t ≠ .exn) : TyX F.K H v (.type (tnName t)) := by
  cases r with
  | non => cases e; exact .base .non
  | bl b => cases e; exact .base (.bl b)
  | int i => cases e; exact .base (.int i)
  | str x => cases e; exact .base (.str x)
  | tup f r =>
    cases e
    rcases f with ⟨⟨o, _, h⟩, _⟩ | ⟨o, its, n, h1, h2, _⟩
    · exact .fTuple h
    · exact .kTuple h1 h2
  | lst f r =>
    cases e
    rcases f with ⟨h | ⟨o, h⟩, _⟩ | ⟨o, its, n, h1, h2, _⟩
    · exact .base (.lst h)
    · exact .base (.frz h)
    · exact .kList h1 h2
  | @cell a n ea =>
    simp only [tyOf] at e
    cases q : S[n]? with
    | none => rw [q] at e; exact nomatch e
    | some c =>
      rw [q] at e
      cases c with
      | lst ds =>
        cases e
        obtain ⟨xs, h1, _⟩ := s.at_ n a _ ea q
        exact .base (.lst h1)
      | dic kvs =>
        cases e
        obtain ⟨xs, h1, _⟩ := s.at_ n a _ ea q
        exact .base (.dK h1)
      | obj c fs => cases e; exact absurd rfl ht
      | _ => exact nomatch e
  | glo _ => exact nomatch e
  | exn f => cases e; exact absurd rfl ht
theorem tyOf_exn {S : Sto} {d : D} (e : tyOf S d = some .exn) : (∃ c fs, d = .exn c fs) ∨ ∃ n c fs, d = .cell n ∧ S[n]? = some (.obj c fs) := by
  cases d with
  | exn c fs => exact .inl ⟨c, fs, rfl⟩
  | cell n =>
    simp only [tyOf] at e
    cases q : S[n]? with
    | none => rw [q] at e; exact nomatch e
    | some c =>
      rw [q] at e
      cases c with
      | obj c fs => exact .inr ⟨n, c, fs, rfl, q⟩
      | _ => cases e
  | _ => cases e
theorem tyX_obj {F : Fx} {μ : List Addr} {H : Hp} {S : Sto} {v : V} {n : Nat} {c : Str} {fs : List (Str × D)} (s : RS F μ H S) (r : RD F μ H v (.cell n)) (e : S[n]? = some (.obj c fs)) : ∃ C : Addr, TyX F.K H v (.ref C) ∧ PlO F.K C := by
  cases r with
  | cell ea =>
    obtain ⟨C, dx, vfs, h1, h2, h3, p⟩ := s.at_ n _ _ ea e
    exact ⟨C, .base (.ins h1 p.cl p.ha p.hn p.tk p.hm), p⟩
theorem tn_plain {T : Tn} (h : T ≠ .non) (h2 : T ≠ .exn) : tnName T ∈ ["tuple", "list", "int", "str", "bool", "dict"] ∧ isTn .exn T = false := by
  cases T <;> first | exact absurd rfl h | exact absurd rfl h2 | exact ⟨by decide, rfl⟩
noncomputable def mIsi (T : Tn) (m : ME) : ME := mUn (fun S d => (tyOf S d).map fun t => .bl (isTn t T)) m
noncomputable def mIsiT (Ts : List Tn) (m : ME) : ME := mUn (fun S d => (tyOf S d).map fun t => .bl (Ts.any (isTn t ·))) m
section
variable {X : Cx} {W : WX} {e a b c : Expr} {es : List Expr} {ma mb mc m : ME} {mr : MA} {pos p p1 p2 p3 : Pos}
theorem d_isi (T : Tn) {x : Str} (h : DE X W e m) (hm : X.mg "isinstance" = none) (hx : X.mg x = none) (hv : bootBuiltins x = some (.type (tnName T)) := by decide +kernel) (hT : T ≠ .non := by decide) (hT2 : T ≠ .exn := by decide) (hg : Gl X "isinstance" := by rfl) (hgx : Gl X x := by rfl)
    (hn : x ≠ "__name__" := by decide) (hd : (x == ("__debug__" : Str)) = false := by decide)
    (he : starEach [e, .Name x p1] X.env = (false, eval e X.env) :: starEach [.Name x p1] X.env := by rfl) (hpl : (backTo pos (starEach [.Name x p1] X.env)).any (·.1) = false := by rfl)
    (hs2 : starEach [.Name x p1] X.env = (false, eval (.Name x p1) X.env) :: starEach [] X.env := by rfl) :
    DE X W (.Call (.Name "isinstance" p) [e, .Name x p1] [] pos) (mIsi T m) := by
  obtain ⟨te, pe, k⟩ := h
  refine ⟨_, pe_callB (call_or call_isi call_isV) hg hm (by decide +kernel) (pa_cons pe (pa_cons (pe_bltn (v := .ty (tnName T)) hgx hx hv rfl hn hd) pa_nil hs2) he) (he := he) (hpl := hpl), fun ξ μ σ H ρ S Q g s h => k ξ μ σ H ρ S _ g s (WR.bind h fun x S1 v μ1 H1 u1 s1 r1 h1 => ?_)⟩
  cases q : tyOf S1 x with
  | none => simp only [q] at h1; exact h1.elim
  | some t =>
    simp only [q] at h1
    by_cases hx : t = .exn
    · subst hx
      obtain ⟨p1, p2⟩ := tn_plain hT hT2
      rcases tyOf_exn q with ⟨c, ns, rfl⟩ | ⟨n, c, fs, rfl, en⟩
      rotate_left
      · obtain ⟨C, t, p⟩ := tyX_obj s1 r1 en
        refine .inl ⟨v, .ty (tnName T), _, _, _, rfl, .ty _, t, p.no _ p1, ?_⟩
        have h1 := h1 _ μ1 H1 .refl s1 (.bl _)
        rw [p2] at h1
        exact h1
      cases r1 with
      | @exn a _ _ z =>
        obtain ⟨cls, dd, ⟨z1, D, rfl, z5, z6⟩, ⟨z2, z3, z4⟩, z7⟩ := z.core
        refine .inr ⟨a, D, dd, .ty (tnName T), .type (tnName T), _, rfl, z2, z5, ?_, fun u hu => hu, z6 _ p1, ?_⟩
        · rcases z7 with ⟨_, rfl⟩ | ⟨d, fs, q1, q2, _⟩
          · exact .inl rfl
          · exact .inr ⟨d, _, q1, q2⟩
        · have h1 := h1 _ μ1 H1 .refl s1 (.bl _)
          rw [p2] at h1
          exact h1
    · exact .inl ⟨v, .ty (tnName T), _, _, _, rfl, .ty _, tyX_of s1 r1 q hx, kit_ty (kit_tn t T hT hT2 hx), h1 _ μ1 H1 .refl s1 (.bl _)⟩
noncomputable def CallD (X : Cx) (r : List V → Hp → VK → Prop) (g : Sto → List D → Option D) : Prop :=
  ∀ ξ μ H S ds vs z Q, RS (fx X ξ) μ H S → RDs (fx X ξ) μ H vs ds → g S ds = some z → (∀ w μ' H', Up μ H μ' H' → RS (fx X ξ) μ' H' S → RD (fx X ξ) μ' H' w z → Q w H') → r vs H Q
noncomputable def CallDL (X : Cx) (r : List V → Hp → VK → Prop) (g : Sto → List D → Option (List D)) : Prop :=
  ∀ ξ μ H S ds vs zs Q, RS (fx X ξ) μ H S → RDs (fx X ξ) μ H vs ds → g S ds = some zs → (∀ p xs μ' H', Up μ H μ' H' → H p = none → RS ((fx X ξ).hold p) μ' H' S → RDs ((fx X ξ).hold p) μ' H' xs zs → H' p = some (.lst xs) → Q (.ref p) H') → r vs H Q
noncomputable def mCallB (g : Sto → List D → Option D) (a : MA) : ME := fun ρ S => (a ρ S).bind fun xs S1 => match g S1 xs with
  | some z => .ok z S1
  | none => .bad
noncomputable def mCallBL (g : Sto → List D → Option (List D)) (a : MA) : MA := fun ρ S => (a ρ S).bind fun xs S1 => match g S1 xs with
  | some z => .ok z S1
  | none => .bad
theorem d_callB {id : String} {x : Str} {r : List V → Hp → VK → Prop} {g : Sto → List D → Option D} (hc : CallR X (.builtin id) r) (hd : CallD X r g) (hm : X.mg x = none) (ha : DA X W (e :: es) mr) (hv : bootBuiltins x = some (.builtin id) := by decide +kernel) (hg : Gl X x := by rfl)
    (hn : x ≠ "__name__" := by decide) (hdb : (x == ("__debug__" : Str)) = false := by decide)
    (he : starEach (e :: es) X.env = (false, eval e X.env) :: starEach es X.env := by rfl) (hpl : (backTo pos (starEach es X.env)).any (·.1) = false := by rfl) : DE X W (.Call (.Name x p) (e :: es) [] pos) (mCallB g mr) := by
  obtain ⟨ta, pa, ka⟩ := ha
  refine ⟨_, pe_callB hc hg hm hv pa hn hdb he hpl, fun ξ μ σ H ρ S Q g0 s h => ka ξ μ σ H ρ S _ g0 s (WR.bind h fun xs S1 vs μ1 H1 u1 s1 r1 h1 => ?_)⟩
  cases q : g S1 xs with
  | none => rw [q] at h1; exact h1.elim
  | some z =>
    rw [q] at h1
    exact hd ξ μ1 H1 S1 xs vs z Q s1 r1 q h1
theorem d_callTy {T : String} {x : Str} {r : List V → Hp → VK → Prop} {g : Sto → List D → Option D} (hc : CallR X (.type T) r) (hd : CallD X r g) (hm : X.mg x = none) (ha : DA X W (e :: es) mr) (hv : bootBuiltins x = some (.type T) := by decide +kernel) (hg : Gl X x := by rfl)
    (hn : x ≠ "__name__" := by decide) (hdb : (x == ("__debug__" : Str)) = false := by decide)
    (he : starEach (e :: es) X.env = (false, eval e X.env) :: starEach es X.env := by rfl) (hpl : (backTo pos (starEach es X.env)).any (·.1) = false := by rfl) : DE X W (.Call (.Name x p) (e :: es) [] pos) (mCallB g mr) := by
  obtain ⟨ta, pa, ka⟩ := ha
  refine ⟨_, pe_callTy hc hg hm hv pa hn hdb he hpl, fun ξ μ σ H ρ S Q g0 s h => ka ξ μ σ H ρ S _ g0 s (WR.bind h fun xs S1 vs μ1 H1 u1 s1 r1 h1 => ?_)⟩
  cases q : g S1 xs with
  | none => rw [q] at h1; exact h1.elim
  | some z =>
    rw [q] at h1
    exact hd ξ μ1 H1 S1 xs vs z Q s1 r1 q h1
theorem dl_callTy {T : String} {x : Str} {r : List V → Hp → VK → Prop} {g : Sto → List D → Option (List D)} (hc : CallR X (.type T) r) (hd : CallDL X r g) (hm : X.mg x = none) (ha : DA X W (e :: es) mr) (hv : bootBuiltins x = some (.type T) := by decide +kernel) (hg : Gl X x := by rfl)
    (hn : x ≠ "__name__" := by decide) (hdb : (x == ("__debug__" : Str)) = false := by decide)
    (he : starEach (e :: es) X.env = (false, eval e X.env) :: starEach es X.env := by rfl) (hpl : (backTo pos (starEach es X.env)).any (·.1) = false := by rfl) : DL X W (.Call (.Name x p) (e :: es) [] pos) (mCallBL g mr) := by
  obtain ⟨ta, pa, ka⟩ := ha
  refine ⟨_, pe_callTy hc hg hm hv pa hn hdb he hpl, fun ξ μ σ H ρ S Q g0 s h => ka ξ μ σ H ρ S _ g0 s (WL'.bind h fun xs S1 vs μ1 H1 u1 s1 r1 h1 => ?_)⟩
  cases q : g S1 xs with
  | none => rw [q] at h1; exact h1.elim
  | some z =>
    rw [q] at h1
    exact hd ξ μ1 H1 S1 xs vs z Q s1 r1 q h1
noncomputable def gLen : Sto → List D → Option D := fun S ds => match ds with
  | [.str z] => if z.length ≤ 16777216 then some (.int z.length) else none
  | [d] => (seqOf S d).map fun ds => .int ds.length
  | _ => none
theorem c_len : CallD X (fun xs H Q => ∃ x n, xs = [x] ∧ LenV X.K x H n ∧ Q (.int n) H) gLen := by
  intro ξ μ H S ds vs z Q s r e k
  unfold gLen at e
  cases r with
  | nil => exact nomatch e
  | @cons v vs d ds r rr =>
    cases rr with
    | cons _ _ => cases d <;> exact nomatch e
    | nil =>
      have main : ∀ es, seqOf S d = some es → D.int es.length = z → ∃ x n, [v] = [x] ∧ LenV X.K x H n ∧ Q (.int n) H := fun es h1 h2 => by
        obtain ⟨a, xs, rfl, h3, h4⟩ := RD.seqS s r h1
        refine ⟨.ref a, xs.length, rfl, h3.imp (fun z => ⟨xs, z, rfl⟩) fun z => ⟨xs, z, rfl⟩, ?_⟩
        rw [h4.length]
        subst h2
        exact k _ μ H .refl s (.int _)
      cases r with
      | str x =>
        simp only at e
        by_cases c : x.length ≤ 16777216
        · rw [if_pos c] at e; cases e
          exact ⟨_, _, rfl, ⟨by rw [sizeLine_eq]; exact c, rfl⟩, k _ μ H .refl s (.int _)⟩
        · rw [if_neg c] at e; exact nomatch e
      | tup f r => exact main _ rfl (Option.some.inj e)
      | lst f r => exact main _ rfl (Option.some.inj e)
      | @cell a n ea =>
        simp only at e
        cases q : seqOf S (.cell n) with
        | none => rw [q] at e; exact nomatch e
        | some es => rw [q] at e; exact main es q (Option.some.inj e)
      | _ => exact nomatch e
noncomputable def gInt1 : Sto → List D → Option D := fun _ ds => match ds with
  | [.int i] => some (.int i)
  | [.bl b] => some (.int (if b then 1 else 0))
  | _ => none
theorem c_int1 : CallD X (fun xs H Q => (∃ i, xs = [.int i] ∧ Q (.int i) H) ∨ ∃ k, xs = [.bl k] ∧ Q (.int (if k then 1 else 0)) H) gInt1 := by
  intro ξ μ H S ds vs z Q s r e k
  unfold gInt1 at e
  cases r with
  | nil => exact nomatch e
  | @cons v vs d ds r rr =>
    cases rr with
    | cons _ _ => cases d <;> exact nomatch e
    | nil =>
      cases r with
      | int i => cases e; exact .inl ⟨i, rfl, k _ μ H .refl s (.int _)⟩
      | bl b => cases e; exact .inr ⟨b, rfl, k _ μ H .refl s (.int _)⟩
      | _ => exact nomatch e
noncomputable def gII (f : Int → Int → Int) : Sto → List D → Option D := fun _ ds => match ds with
  | [.int i, .int j] => some (.int (f i j))
  | _ => none
theorem c_II {f : Int → Int → Int} : CallD X (fun xs H Q => ∃ i j, xs = [.int i, .int j] ∧ Q (.int (f i j)) H) (gII f) := by
  intro ξ μ H S ds vs z Q s r e k
  unfold gII at e
  cases r with
  | nil => exact nomatch e
  | @cons v vs d ds r rr =>
    cases rr with
    | nil => cases d <;> exact nomatch e
    | @cons v2 vs2 d2 ds2 r2 rr2 =>
      cases rr2 with
      | cons _ _ => cases d <;> cases d2 <;> exact nomatch e
      | nil =>
        cases r with
        | int i =>
          cases r2 with
          | int j => cases e; exact ⟨i, j, rfl, k _ μ H .refl s (.int _)⟩
          | _ => exact nomatch e
        | _ => exact nomatch e
noncomputable abbrev gMax2 := gII fun i j => if j > i then j else i
noncomputable abbrev gMin2 := gII fun i j => if j < i then j else i
noncomputable def gTuple : Sto → List D → Option D := fun S ds => match ds with
  | [d] => (seqOf S d).map .tup
  | _ => none
theorem c_tuple : CallD X (fun xs H Q => ∃ p ys, xs = [.ref p] ∧ ((SqL X.K H p ys ∧ NwT H Q ys) ∨ (SqT X.K H p ys ∧ Q (.ref p) H))) gTuple := by
  intro ξ μ H S ds vs z Q s r e k
  unfold gTuple at e
  cases r with
  | nil => exact nomatch e
  | @cons v vs d ds r rr =>
    cases rr with
    | cons _ _ => exact nomatch e
    | nil =>
      simp only at e
      have lst : ∀ es, lstOf S d = some es → D.tup es = z → ∃ p ys, [v] = [.ref p] ∧ ((SqL X.K H p ys ∧ NwT H Q ys) ∨ (SqT X.K H p ys ∧ Q (.ref p) H)) := fun es h1 h2 => by
        obtain ⟨a, xs, rfl, h3, h4⟩ := RD.lstS s r h1
        subst h2
        exact ⟨a, xs, rfl, .inl ⟨h3, fun l o hl ho => k _ μ _ (.fresh hl) (s.fresh hl) (.tup (.inl ⟨.new ho, s.out hl, s.outX hl⟩) (h4.up (.fresh hl)))⟩⟩
      cases r with
      | tup f r =>
        cases Option.some.inj e
        exact ⟨_, _, rfl, .inr ⟨f.sq, k _ μ H .refl s (.tup f r)⟩⟩
      | lst f r => exact lst _ rfl (Option.some.inj e)
      | @cell a n ea =>
        cases q : lstOf S (.cell n) with
        | none =>
          have e : (lstOf S (.cell n)).map D.tup = some z := e
          rw [q] at e; exact nomatch e
        | some es =>
          have e : (lstOf S (.cell n)).map D.tup = some z := e
          rw [q] at e; exact lst es q (Option.some.inj e)
      | _ => exact nomatch e
noncomputable def gList : Sto → List D → Option (List D) := fun S ds => match ds with
  | [d] => seqOf S d
  | _ => none
theorem c_list : CallDL X (fun xs H Q => ∃ p ys, xs = [.ref p] ∧ (SqL X.K H p ys ∨ SqT X.K H p ys) ∧ ∀ l, H l = none → Q (.ref l) (upd H l (.lst ys))) gList := by
  intro ξ μ H S ds vs z Q s r e k
  unfold gList at e
  cases r with
  | nil => exact nomatch e
  | @cons v vs d ds r rr =>
    cases rr with
    | cons _ _ => exact nomatch e
    | nil =>
      obtain ⟨a, xs, rfl, h1, h2⟩ := RD.seqS s r e
      exact ⟨a, xs, rfl, h1, fun l hl => k l xs μ _ (.fresh hl) hl (s.holds hl) (h2.mv (.holds hl)) upd_same⟩
noncomputable def blsOf : List D → Option (List Bool)
  | [] => some []
  | .bl b :: ds => (blsOf ds).map (b :: ·)
  | _ :: _ => none
theorem bls_of {F : Fx} {μ : List Addr} {H : Hp} : ∀ {vs : List V} {ds : List D} {bs : List Bool}, RDs F μ H vs ds → blsOf ds = some bs → vs = bs.map V.bl
  | _, [], bs, r, e => by cases r; cases e; rfl
  | _, d :: ds, bs, r, e => by
    cases r with
    | cons a b =>
      cases a with
      | bl x =>
        have e : (blsOf ds).map (x :: ·) = some bs := e
        cases q : blsOf ds with
        | none => rw [q] at e; exact nomatch e
        | some cs =>
          rw [q] at e; cases e
          rw [bls_of b q] <;> rfl
      | _ => exact nomatch e
noncomputable def gAll : Sto → List D → Option D := fun S ds => match ds with
  | [d] => (lstOf S d).bind fun es => (blsOf es).map fun bs => .bl (bs.all id)
  | _ => none
theorem c_all : CallD X (rAll X.K) gAll := by
  intro ξ μ H S ds vs z Q s r e k
  unfold gAll at e
  cases r with
  | nil => exact nomatch e
  | @cons v vs d ds r rr =>
    cases rr with
    | cons _ _ => exact nomatch e
    | nil =>
      simp only at e
      cases q : lstOf S d with
      | none => rw [q] at e; exact nomatch e
      | some es =>
        rw [q] at e
        have e : (blsOf es).map (fun bs => D.bl (bs.all id)) = some z := e
        cases q' : blsOf es with
        | none => rw [q'] at e; exact nomatch e
        | some bs =>
          rw [q'] at e; cases e
          obtain ⟨a, xs, rfl, h1, h2⟩ := RD.lstS s r q
          have e := bls_of h2 q'
          subst e
          exact ⟨a, bs, rfl, h1, k _ μ H .refl s (.bl _)⟩
noncomputable def mCatL (a b : MA) : MA := fun ρ S => (a ρ S).bind fun xs S1 => (b ρ S1).bind fun ys S2 => if xs.length + ys.length ≤ 16777216 then .ok (xs ++ ys) S2 else .bad
theorem WL'.bindL {F : Fx} {Q : VK} {Q1 : VK} {Wx : Value → Option Addr → Hp → Prop} {μ : List Addr} {H : Hp} {r : Res (List D)} {f : List D → Sto → Res (List D)} (h : WL' F (r.bind f) Q Wx μ H)
    (k : ∀ ds S1 p xs μ1 H1, Up μ H μ1 H1 → H p = none → RS (F.hold p) μ1 H1 S1 → RDs (F.hold p) μ1 H1 xs ds → H1 p = some (.lst xs) → WL' F (f ds S1) Q Wx μ1 H1 → Q1 (.ref p) H1) : WL' F r Q1 Wx μ H := by
  cases r with
  | ok x S1 => exact fun p xs μ1 H1 u1 hp s1 r1 e1 => k x S1 p xs μ1 H1 u1 hp s1 r1 e1 (WL'.shift u1 h)
  | exc c fs S => exact h
  | bad => exact h
theorem XR.hold {F : Fx} {μ : List Addr} {H : Hp} {cls : Value} {dd : Option Addr} {c : Str} {fs : List (Str × D)} {p : Addr} (h : XR (F.hold p) μ H cls dd c fs) : XR F μ H cls dd c fs := by
  obtain ⟨h1, h2⟩ := h
  refine ⟨h1, h2.imp id ?_⟩
  rintro ⟨d, vfs, e, h3, h4, h6, h5⟩
  exact ⟨d, vfs, e, h3, h4, fun q => h6 (List.mem_cons_of_mem _ q), Paired.mapP h5 fun _ _ z => ⟨z.1, z.2.mv .free⟩⟩
theorem dl_cat {na nb : MA} (ha : DL X W a na) (hb : DL X W b nb) : DL X W (.BinOp a .Add b pos) (mCatL na nb) := by
  obtain ⟨ta, pa, ka⟩ := ha
  obtain ⟨tb, pb, kb⟩ := hb
  refine ⟨_, pe_op op_cat pa pb, fun ξ μ σ H ρ S Q g s h => ka ξ μ σ H ρ S _ g s (WL'.bindL h fun ds S1 p xs μ1 H1 u1 hp s1 r1 e1 h1 => ?_)⟩
  refine kb (p :: ξ) μ1 σ H1 ρ S1 _ ?_ s1 ?_
  · exact ⟨g.len, fun i d e => by
      obtain ⟨v, h, r⟩ := (g.up u1).at_ i d e
      obtain ⟨v', h', r'⟩ := g.at_ i d e
      rw [h] at h'; cases h'
      have m : Mv (fx X ξ) μ H ((fx X ξ).hold p) μ1 H1 := ⟨fun {a xs} q => by
        rcases q.up u1 with ⟨z, n, nx⟩ | z
        · rcases q with ⟨z0, _⟩ | z0
          · refine .inl ⟨z, n, fun m => (List.mem_cons.mp m).elim (fun e => ?_) nx⟩
            subst e
            obtain ⟨o, _, z0⟩ := z0
            rw [hp] at z0; cases z0
          · exact .inr z0
        · exact .inr z, fun {a xs} q => by
        rcases q.up u1 with ⟨z, n, nx⟩ | z
        · rcases q with ⟨z0, _⟩ | z0
          · refine .inl ⟨z, n, fun m => (List.mem_cons.mp m).elim (fun e => ?_) nx⟩
            subst e
            rcases z0 with z0 | ⟨o, z0⟩ <;> (rw [hp] at z0; cases z0)
          · exact .inr z0
        · exact .inr z, fun q => u1.get q, rfl, fun q => q.upHold u1 hp⟩
      exact ⟨v, h, r'.mv m⟩⟩
  cases e : nb ρ S1 with
  | bad => rw [e] at h1; exact h1.elim
  | exc c fs S2 =>
    rw [e] at h1
    exact fun cls dd μ' H' u' s' x' => h1 cls dd μ' H' u' (RS.free (F := fx X ξ) (p := p) s') (XR.hold (F := fx X ξ) (p := p) x')
  | ok es S2 =>
    rw [e] at h1
    intro q ys μ2 H2 u2 hq s2 r2 e2
    have hpq : p ∉ μ1 := (s1.xi p List.mem_cons_self).1
    have ep := u2.keep _ _ e1 hpq
    by_cases c : ds.length + es.length ≤ 16777216
    · have h1 : WL' (fx X ξ) (if ds.length + es.length ≤ 16777216 then Res.ok (ds ++ es) S2 else .bad) Q (fun cls dd H' => W cls dd σ H') μ1 H1 := h1
      rw [if_pos c] at h1
      refine ⟨p, q, xs, ys, rfl, rfl, ep, e2, by rw [r1.length, r2.length, sizeLine_eq]; exact c, fun r hr => ?_⟩
      have rr : RDs (fx X ξ) μ2 H2 (xs ++ ys) (ds ++ es) := RDs.append ((r1.mv .free).up u2) ((RDs.free (F := fx X ξ) (p := p) es (RDs.free (F := fx X (p :: ξ)) (p := q) es r2)))
      have ss : RS (fx X ξ) μ2 H2 S2 := RS.free (F := fx X ξ) (p := p) (RS.free (F := fx X (p :: ξ)) (p := q) s2)
      have nr : r ∉ μ1 := fun z => ss.out hr (u2.mem z)
      exact h1 r _ μ2 _ (u2.trans (.fresh hr)) (u2.back hr nr) (ss.holds hr) (rr.mv (.holds hr)) upd_same
    · have h1 : WL' (fx X ξ) (if ds.length + es.length ≤ 16777216 then Res.ok (ds ++ es) S2 else .bad) Q (fun cls dd H' => W cls dd σ H') μ1 H1 := h1
      rw [if_neg c] at h1
      exact h1.elim
end
noncomputable def mNop : MS := fun ρ S => .nx ρ S
noncomputable def mSeq (a b : MS) : MS := fun ρ S => match a ρ S with
  | .nx ρ1 S1 => b ρ1 S1
  | o => o
noncomputable def ofRes {α : Type} (r : Res α) (ρ : Rho) (k : α → Sto → Out) : Out := match r with
  | .ok a S => k a S
  | .exc c fs S => .exc c fs ρ S
  | .bad => .bad
noncomputable def mAsg (i : Nat) (m : ME) : MS := fun ρ S => ofRes (m ρ S) ρ fun d S1 => .nx (ρ.set i (some d)) S1
noncomputable def mRet (m : ME) : MS := fun ρ S => ofRes (m ρ S) ρ fun d S1 => .rt d S1
noncomputable def mRetN : MS := fun _ S => .rt .non S
noncomputable def mDrop (m : ME) : MS := fun ρ S => ofRes (m ρ S) ρ fun _ S1 => .nx ρ S1
noncomputable def mIfS (c : ME) (a b : MS) : MS := fun ρ S => ofRes (c ρ S) ρ fun d S1 => match d with
  | .bl true => a ρ S1
  | .bl false => b ρ S1
  | _ => .bad
noncomputable def mBrk : MS := fun ρ S => .bk ρ S
noncomputable def mCont : MS := fun ρ S => .ct ρ S
section
variable {F : Fx} {α β : Type} {rel : List Addr → Hp → β → α → Prop} {μ : List Addr} {H : Hp} {E : Ends} {W : WX} {σ : St} {ρ : Rho}
theorem WS'.bind {r : Res α} {f : α → Sto → Out} {Q1 : β → Hp → Prop} (g : RG F μ H σ ρ) (h : WS' F (ofRes r ρ f) E W μ H)
    (k : ∀ x S1 v μ1 H1, Up μ H μ1 H1 → RS F μ1 H1 S1 → rel μ1 H1 v x → WS' F (f x S1) E W μ1 H1 → Q1 v H1) : WR F rel r Q1 (fun cls dd H' => W cls dd σ H') μ H := by
  cases r with
  | ok x S1 => exact fun v μ1 H1 u1 s1 r1 => k x S1 v μ1 H1 u1 s1 r1 (WS'.shift u1 h)
  | exc c fs S => exact fun cls dd μ' H' u' s' x' => h cls dd σ μ' H' u' s' (g.up u') x'
  | bad => exact h
theorem WS'.bindT {r : Res D} {f : D → Sto → Out} {Q1 : Bool → Hp → Prop} (g : RG F μ H σ ρ) (h : WS' F (ofRes r ρ f) E W μ H) (hb : ∀ d S, (∀ b, d ≠ .bl b) → f d S = .bad)
    (k : ∀ b S1 μ1 H1, Up μ H μ1 H1 → RS F μ1 H1 S1 → WS' F (f (.bl b) S1) E W μ1 H1 → Q1 b H1) : WT' F r Q1 (fun cls dd H' => W cls dd σ H') μ H := by
  cases r with
  | ok d S1 =>
    have h : WS' F (f d S1) E W μ H := h
    cases d with
    | bl b => exact fun μ1 H1 u1 s1 => k b S1 μ1 H1 u1 s1 (WS'.shift u1 h)
    | _ =>
      rw [hb _ _ (by intro b e; cases e)] at h
      exact h
  | exc c fs S => exact fun cls dd μ' H' u' s' x' => h cls dd σ μ' H' u' s' (g.up u') x'
  | bad => exact h
end
section
variable {X : Cx} {W : WX} {e a b c : Expr} {es : List Expr} {st : Stmt} {sts ts : List Stmt} {ma mb mc m : ME} {mr : MA} {m1 m2 : MS} {pos p p1 p2 p3 : Pos}
theorem dss_nil : DSs X W [] mNop := ⟨_, pss_nil, fun ξ μ σ H ρ S D g s h => h σ μ H .refl s g⟩
theorem WS'.seq {F : Fx} {μ : List Addr} {H : Hp} {D : Ends} {W : WX} {o : Out} {k : Rho → Sto → Out} {u : TS} (h : WS' F (match o with | .nx ρ1 S1 => k ρ1 S1 | o => o) D W μ H)
    (hu : ∀ σ ρ1 S1 μ1 H1, Up μ H μ1 H1 → RS F μ1 H1 S1 → RG F μ1 H1 σ ρ1 → WS' F (k ρ1 S1) D W μ1 H1 → u D σ H1) : WS' F o { D with nx := u D } W μ H := by
  cases o with
  | nx ρ1 S1 => exact fun σ μ1 H1 u1 s1 g1 => hu σ ρ1 S1 μ1 H1 u1 s1 g1 (WS'.shift u1 h)
  | _ => exact h
theorem dss_cons (h1 : DS X W st m1) (h2 : DSs X W sts m2) : DSs X W (st :: sts) (mSeq m1 m2) := by
  obtain ⟨ta, pa, ka⟩ := h1
  obtain ⟨tb, pb, kb⟩ := h2
  exact ⟨_, pss_cons pa pb, fun ξ μ σ H ρ S D g s h => ka ξ μ σ H ρ S _ g s (WS'.seq h fun σ' ρ1 S1 μ1 H1 u1 s1 g1 h1 => kb ξ μ1 σ' H1 ρ1 S1 D g1 s1 h1)⟩
theorem dss_one (h1 : DS X W st m1) : DSs X W [st] m1 := let ⟨_, p, k⟩ := h1; ⟨_, pss_one p, k⟩
theorem ds_set (i : Nat) {x : Str} {pos' : Pos} (hN : X.N.Nodup) (he : DE X W e m) (hi : X.N[i]? = some x := by rfl) (hx : Loc X.env.scope x := by first | exact Or.inl rfl | exact Or.inr rfl) (hs : swapsWith e (some (.Name x pos')) pos.line X.env = pure false := by rfl)
    (hf : X.fn x = true ∨ X.env.scope.names.lookup x = some .local := by first | exact .inl rfl | exact .inr rfl) : DS X W (.Assign [.Name x pos'] e pos) (mAsg i m) := by
  obtain ⟨te, p, k⟩ := he
  refine ⟨_, ps_set hN hi hx p hs hf, fun ξ μ σ H ρ S D g s h => k ξ μ σ H ρ S _ g s (WS'.bind g h fun x S1 v μ1 H1 u1 s1 r1 h1 => ?_)⟩
  exact h1 _ μ1 H1 .refl s1 ((g.up u1).set i r1)
theorem ds_ret (he : DE X W e m) : DS X W (.Return (some e) pos) (mRet m) := by
  obtain ⟨te, p, k⟩ := he
  exact ⟨_, ps_ret p, fun ξ μ σ H ρ S D g s h => k ξ μ σ H ρ S _ g s (WS'.bind g h fun x S1 v μ1 H1 u1 s1 r1 h1 => h1 _ μ1 H1 .refl s1 r1)⟩
theorem ds_expr (he : DE X W e m) (hs : swapsWith e none pos.line X.env = pure false := by rfl) : DS X W (.Expr e pos) (mDrop m) := by
  obtain ⟨te, p, k⟩ := he
  exact ⟨_, ps_expr p hs, fun ξ μ σ H ρ S D g s h => k ξ μ σ H ρ S _ g s (WS'.bind g h fun x S1 v μ1 H1 u1 s1 r1 h1 => h1 _ μ1 H1 .refl s1 (g.up u1))⟩
theorem ds_if (hc : DT X W c mc) (ha : DSs X W sts m1) (hb : DSs X W ts m2) : DS X W (.If c sts ts pos) (mIfS mc m1 m2) := by
  obtain ⟨tc, pc, kc⟩ := hc
  obtain ⟨ta, pa, ka⟩ := ha
  obtain ⟨tb, pb, kb⟩ := hb
  refine ⟨_, ps_if pc pa pb, fun ξ μ σ H ρ S D g s h => kc ξ μ σ H ρ S _ g s (WS'.bindT g h (fun d S h => by cases d <;> first | rfl | exact absurd rfl (h _)) fun c S1 μ1 H1 u1 s1 h1 => ?_)⟩
  cases c with
  | true => exact ka ξ μ1 σ H1 ρ S1 D (g.up u1) s1 h1
  | false => exact kb ξ μ1 σ H1 ρ S1 D (g.up u1) s1 h1
structure DG (X : Cx) (tg : Expr) (f : D → Rho → Option Rho) (is : List Nat) : Prop where
  ex : ∃ t, PG X tg t ∧ ∀ ξ μ σ H ρ v d ρ' (Q : St → Hp → Prop), RG (fx X ξ) μ H σ ρ → RD (fx X ξ) μ H v d → f d ρ = some ρ' →
    (∀ σ', RG (fx X ξ) μ H σ' ρ' → (∀ js : List Nat, (∀ i ∈ is, i ∈ js) → wipe σ' js = wipe σ js) → Q σ' H) → t v σ H Q
structure DGs (X : Cx) (tg : List Expr) (f : List D → Rho → Option Rho) (is : List Nat) : Prop where
  ex : ∃ t, PGs X tg t ∧ ∀ ξ μ σ H ρ vs ds ρ' (Q : St → Hp → Prop), RG (fx X ξ) μ H σ ρ → RDs (fx X ξ) μ H vs ds → f ds ρ = some ρ' →
    (∀ σ', RG (fx X ξ) μ H σ' ρ' → (∀ js : List Nat, (∀ i ∈ is, i ∈ js) → wipe σ' js = wipe σ js) → Q σ' H) → t vs σ H Q
theorem wipe_get (σ : St) (i : Nat) : ∀ js : List Nat, (wipe σ js)[i]? = if i ∈ js ∧ i < σ.length then some none else σ[i]?
  | [] => by simp [wipe]
  | j :: js => by
    unfold wipe
    have ih := wipe_get σ i js
    by_cases hj : j = i
    · subst hj
      by_cases hl : j < σ.length
      · rw [List.getElem?_set_self (by rw [wipe_length]; exact hl), if_pos ⟨List.mem_cons_self, hl⟩]
      · rw [List.getElem?_eq_none (by rw [List.length_set, wipe_length]; omega), if_neg (fun z => hl z.2), List.getElem?_eq_none (by omega)]
    · rw [List.getElem?_set_ne hj, ih]
      have e : (i ∈ j :: js ∧ i < σ.length) ↔ (i ∈ js ∧ i < σ.length) := by
        constructor
        · rintro ⟨z, l⟩
          exact ⟨(List.mem_cons.mp z).resolve_left fun q => hj q.symm, l⟩
        · rintro ⟨z, l⟩
          exact ⟨List.mem_cons_of_mem _ z, l⟩
      by_cases q : i ∈ js ∧ i < σ.length
      · rw [if_pos q, if_pos (e.mpr q)]
      · rw [if_neg q, if_neg fun z => q (e.mp z)]
theorem wipe_set {σ : St} {i : Nat} {o : Option V} {js : List Nat} (h : i ∈ js) : wipe (σ.set i o) js = wipe σ js := by
  refine List.ext_getElem? fun k => ?_
  rw [wipe_get, wipe_get, List.length_set]
  by_cases q : k ∈ js ∧ k < σ.length
  · rw [if_pos q, if_pos q]
  · rw [if_neg q, if_neg q]
    by_cases e : i = k
    · subst e
      have l : ¬ i < σ.length := fun l => q ⟨h, l⟩
      rw [List.getElem?_eq_none (by rw [List.length_set]; omega), List.getElem?_eq_none (by omega)]
    · rw [List.getElem?_set_ne e]
noncomputable def tgN (i : Nat) : D → Rho → Option Rho := fun d ρ => some (ρ.set i (some d))
theorem dg_name (i : Nat) {x : Str} (hN : X.N.Nodup) (hi : X.N[i]? = some x := by rfl) (hx : Loc X.env.scope x := by first | exact Or.inl rfl | exact Or.inr rfl) (hf : X.fn x = true ∨ X.env.scope.names.lookup x = some .local := by first | exact .inl rfl | exact .inr rfl) : DG X (.Name x pos) (tgN i) [i] :=
  ⟨_, pg_name hN hi hx hf, fun ξ μ σ H ρ v d ρ' Q g r e k => by
    cases e
    exact k _ (g.set i r) fun js h => wipe_set (h i List.mem_cons_self)⟩
noncomputable def tgNil : List D → Rho → Option Rho := fun ds ρ => match ds with
  | [] => some ρ
  | _ => none
noncomputable def tgCons (f : D → Rho → Option Rho) (g : List D → Rho → Option Rho) : List D → Rho → Option Rho := fun ds ρ => match ds with
  | d :: ds => (f d ρ).bind fun ρ1 => g ds ρ1
  | [] => none
theorem dgs_nil : DGs X [] tgNil [] := ⟨_, pgs_nil, fun ξ μ σ H ρ vs ds ρ' Q g r e k => by
  cases r with
  | nil => cases e; exact ⟨rfl, k σ g fun _ _ => rfl⟩
  | cons _ _ => exact nomatch e⟩
theorem dgs_cons {f : D → Rho → Option Rho} {fs : List D → Rho → Option Rho} {is js : List Nat} (h1 : DG X e f is) (h2 : DGs X es fs js) (hs : (assignEach (e :: es) X.env).map (·.2) = assign e X.env :: (assignEach es X.env).map (·.2) := by rfl) : DGs X (e :: es) (tgCons f fs) (is ++ js) := by
  obtain ⟨t1, p1, k1⟩ := h1
  obtain ⟨t2, p2, k2⟩ := h2
  refine ⟨_, pgs_cons p1 p2 hs, fun ξ μ σ H ρ vs ds ρ' Q g r e k => ?_⟩
  cases r with
  | nil => exact nomatch e
  | @cons v vs d ds r rr =>
    have e : (f d ρ).bind (fun ρ1 => fs ds ρ1) = some ρ' := e
    cases q : f d ρ with
    | none => rw [q] at e; exact nomatch e
    | some ρ1 =>
      rw [q] at e
      refine ⟨v, vs, rfl, k1 ξ μ σ H ρ v d ρ1 _ g r q fun σ1 g1 w1 => ?_⟩
      refine k2 ξ μ σ1 H ρ1 vs ds ρ' Q g1 rr e fun σ2 g2 w2 => k σ2 g2 fun ks hk => ?_
      rw [w2 ks fun i hi => hk i (List.mem_append_right _ hi), w1 ks fun i hi => hk i (List.mem_append_left _ hi)]
noncomputable def tgT (n : Nat) (f : List D → Rho → Option Rho) : D → Rho → Option Rho := fun d ρ => match d with
  | .tup ds => if ds.length = n then f ds ρ else none
  | _ => none
theorem dg_tup {k n : Nat} {f : List D → Rho → Option Rho} {is : List Nat} {tp : Pos} (hc : X.calm = true) (h : DGs X es f is) (hn : (assignEach es X.env).length = n := by rfl) (hst : (assignEach es X.env).findIdx? (·.1) = none := by rfl) : DG X (.Tuple es k tp) (tgT n f) is := by
  obtain ⟨t, p, k⟩ := h
  refine ⟨_, pg_tup hc p hn hst, fun ξ μ σ H ρ v d ρ' Q g r e kk => ?_⟩
  cases r with
  | @tup a xs ds fz r =>
    unfold tgT at e
    by_cases c : ds.length = n
    · simp only [if_pos c] at e
      exact ⟨a, xs, rfl, fz.sq, by rw [r.length]; exact c, k ξ μ σ H ρ xs ds ρ' Q g r e kk⟩
    · simp only [if_neg c] at e
      exact nomatch e
  | _ => exact nomatch e
noncomputable def mAsgG (f : D → Rho → Option Rho) (m : ME) : MS := fun ρ S => ofRes (m ρ S) ρ fun d S1 => match f d ρ with
  | some ρ1 => .nx ρ1 S1
  | none => .bad
theorem ds_asg {tg : Expr} {f : D → Rho → Option Rho} {is : List Nat} (he : DE X W e m) (hg : DG X tg f is) (hs : swapsWithSole [tg] e pos.line X.env = pure false := by rfl) (hw : swappedStores [tg] e X.env = pure none := by rfl) (h1 : (assignEach [tg] X.env).map (·.2) = [assign tg X.env] := by rfl) : DS X W (.Assign [tg] e pos) (mAsgG f m) := by
  obtain ⟨te, p, k⟩ := he
  obtain ⟨tg, pg, kg⟩ := hg
  refine ⟨_, ps_asg p pg hs hw h1, fun ξ μ σ H ρ S D g s h => k ξ μ σ H ρ S _ g s (WS'.bind g h fun x S1 v μ1 H1 u1 s1 r1 h1 => ?_)⟩
  cases q : f x ρ with
  | none => rw [q] at h1; exact h1.elim
  | some ρ1 =>
    rw [q] at h1
    exact kg ξ μ1 σ H1 ρ v x ρ1 _ (g.up u1) r1 q fun σ' g' _ => h1 σ' μ1 H1 .refl s1 g'
noncomputable def mSetIx (m o i : ME) : MS := fun ρ S => ofRes (m ρ S) ρ fun d S1 => ofRes (o ρ S1) ρ fun x S2 => ofRes (i ρ S2) ρ fun y S3 => match x, y with
  | .cell n, .int j => match S3[n]? with
    | some (.lst ds) => match ixN ds.length j with
      | some k => .nx ρ (S3.set n (.lst (ds.set k d)))
      | none => .bad
    | _ => .bad
  | _, _ => .bad
theorem ds_setIx {o i : Expr} {mo mi : ME} (he : DE X W e m) (ho : DE X W o mo) (hi : DE X W i mi)
    (ha : ∀ v, assign (.Subscript o i p) X.env v = (do
      let ov ← holding [v] (eval o X.env)
      let iv ← holding [v, ov] (eval i X.env)
      standAt p
      holding [v, ov, iv] (setItem ov iv v)
      release [v, ov, iv] []) := by intro _; rfl) (hs : swapsWithSole [.Subscript o i p] e pos.line X.env = pure false := by rfl) (hw : swappedStores [.Subscript o i p] e X.env = pure none := by rfl) : DS X W (.Assign [.Subscript o i p] e pos) (mSetIx m mo mi) := by
  obtain ⟨te, pe, ke⟩ := he
  obtain ⟨to, po, ko⟩ := ho
  obtain ⟨ti, pi, ki⟩ := hi
  refine ⟨_, ps_asg pe (pg_sub po pi set_list ha) hs hw, fun ξ μ σ H ρ S D g s h => ke ξ μ σ H ρ S _ g s (WS'.bind g h fun d S1 v μ1 H1 u1 s1 r1 h1 => ?_)⟩
  refine ko ξ μ1 σ H1 ρ S1 _ (g.up u1) s1 (WS'.bind (g.up u1) h1 fun x S2 v2 μ2 H2 u2 s2 r2 h2 => ?_)
  refine ki ξ μ2 σ H2 ρ S2 _ (g.up (u1.trans u2)) s2 (WS'.bind (g.up (u1.trans u2)) h2 fun y S3 v3 μ3 H3 u3 s3 r3 h3 => ?_)
  have rd := r1.up (u2.trans u3)
  have rx := r2.up u3
  cases rx with
  | @cell a n ea =>
    cases r3 with
    | int j =>
      simp only at h3
      cases q : S3[n]? with
      | none => rw [q] at h3; exact h3.elim
      | some c =>
        rw [q] at h3
        cases c with
        | lst ds =>
          simp only at h3
          cases q2 : ixN ds.length j with
          | none => rw [q2] at h3; exact h3.elim
          | some k =>
            rw [q2] at h3
            obtain ⟨xs, e1, e2⟩ := s3.at_ n a _ ea q
            refine ⟨a, xs, j, k, rfl, rfl, e1, by rw [e2.length]; exact q2, ?_⟩
            exact h3 σ μ3 _ (.write ea) (s3.write ea ⟨_, upd_same, ((e2.set k rd).up (.write ea))⟩) (g.up (u1.trans (u2.trans (u3.trans (.write ea)))))
        | _ => exact h3.elim
    | _ => exact h3.elim
  | _ => exact h3.elim
noncomputable def mApp (o m : ME) : MS := fun ρ S => ofRes (o ρ S) ρ fun x S1 => match x with
  | .cell n => match S1[n]? with
    | some (.lst _) => ofRes (m ρ S1) ρ fun d S2 => match S2[n]? with
      | some (.lst ds) => if ds.length < 16777216 then .nx ρ (S2.set n (.lst (ds ++ [d]))) else .bad
      | _ => .bad
    | _ => .bad
  | _ => .bad
theorem ds_app {o : Expr} {mo : ME} (ho : DE X W o mo) (he : DE X W e m) (hp : ∀ {to te : TE}, PE X o to → PE X e te → PS X st (tDrop (tBM X.K "list" rAppend to (tCons te tNil)))) : DS X W st (mApp mo m) := by
  obtain ⟨to, po, ko⟩ := ho
  obtain ⟨te, pe, ke⟩ := he
  refine ⟨_, hp po pe, fun ξ μ σ H ρ S D g s h => ?_⟩
  refine ko ξ μ σ H ρ S _ g s (WS'.bind g h fun x S1 v μ1 H1 u1 s1 r1 h1 => ?_)
  cases r1 with
  | @cell a n ea =>
    simp only at h1
    cases q : S1[n]? with
    | none => rw [q] at h1; exact h1.elim
    | some c =>
      rw [q] at h1
      cases c with
      | lst ds0 =>
        simp only at h1
        obtain ⟨xs0, e1, _⟩ := s1.at_ n a _ ea q
        refine ⟨.inl ⟨rfl, _, SqL.of e1⟩, ?_⟩
        refine ke ξ μ1 σ H1 ρ S1 _ (g.up u1) s1 (WS'.bind (g.up u1) h1 fun d S2 v2 μ2 H2 u2 s2 r2 h2 => ?_)
        cases q2 : S2[n]? with
        | none => simp only [q2] at h2; exact h2.elim
        | some c2 =>
          simp only [q2] at h2
          cases c2 with
          | lst ds =>
            simp only at h2
            by_cases l : ds.length < 16777216
            · rw [if_pos l] at h2
              have ea2 := u2.get ea
              obtain ⟨xs, e2, e3⟩ := s2.at_ n a _ ea2 q2
              refine ⟨a, xs, v2, rfl, rfl, e2, by rw [e3.length, sizeLine_eq]; exact l, ?_⟩
              exact h2 σ μ2 _ (.write ea2) (s2.write ea2 ⟨_, upd_same, (e3.append (.cons r2 .nil)).up (.write ea2)⟩) (g.up (u1.trans (u2.trans (.write ea2))))
            · rw [if_neg l] at h2; exact h2.elim
          | _ => exact h2.elim
      | _ => exact h1.elim
  | _ => exact h1.elim
end
end Dm
namespace Dm
open PySem L2
open PySem.W (Frag)
structure Ext (F F' : Fx) (H : Hp) : Prop where
  k : F'.K = F.K
  gw : (F'.mg, F'.w) = (F.mg, F.w)
  x : ∀ a, a ∈ F'.ξ → a ∈ F.ξ ∨ H a = none
theorem Ext.g {F F' : Fx} {H : Hp} (e : Ext F F' H) : F'.mg = F.mg := congrArg Prod.fst e.gw
theorem Ext.w {F F' : Fx} {H : Hp} (e : Ext F F' H) : F'.w = F.w := congrArg Prod.snd e.gw
theorem Ext.refl {F : Fx} {H : Hp} : Ext F F H := ⟨rfl, rfl, fun _ h => .inl h⟩
theorem Mv.ext {F F' : Fx} {μ μ' : List Addr} {H H' : Hp} (e : Ext F F' H) (u : Up μ H μ' H') : Mv F μ H F' μ' H' := ⟨fun {a xs} q => by
    rcases q.up u with ⟨z, n, nx⟩ | z
    · rcases q with ⟨z0, _⟩ | z0
      · refine .inl ⟨z, n, fun m => ?_⟩
        rcases e.x _ m with q | q
        · exact nx q
        · obtain ⟨o, _, z0⟩ := z0
          rw [q] at z0; cases z0
      · exact .inr (by rw [e.k]; exact z0)
    · exact .inr (by rw [e.k]; exact z), fun {a xs} q => by
    rcases q.up u with ⟨z, n, nx⟩ | z
    · rcases q with ⟨z0, _⟩ | z0
      · refine .inl ⟨z, n, fun m => ?_⟩
        rcases e.x _ m with q | q
        · exact nx q
        · rcases z0 with z0 | ⟨o, z0⟩ <;> (rw [q] at z0; cases z0)
      · exact .inr (by rw [e.k]; exact z0)
    · exact .inr (by rw [e.k]; exact z), fun q => u.get q, (by rw [e.g, e.w, e.k]), fun {a c ns} h => by
    have no : ∀ {b : Addr} {o : HO}, H b = some o → b ∉ F.ξ → b ∉ F'.ξ := fun {b o} hb n m => (e.x b m).elim n fun q => by
      rw [q] at hb; cases hb
    rcases h with ⟨nm, cls, dd, e0, ⟨h1, h2, h3⟩, h4⟩ | ⟨m, em, cls, dd, t, e0, ⟨h1, h2, h3⟩, ⟨t1, t2, t3⟩, h4⟩
    · refine .inl ⟨nm, cls, dd, by rw [e.g, e.k]; exact e0, ⟨u.keep _ _ h1 h2, u.notin h1 h2, no h1 h3⟩, h4.imp id ?_⟩
      rintro ⟨d, fs, e2, h5, hf, h6, h7⟩
      exact ⟨d, fs, e2, u.keep _ _ h5 h6, hf, u.notin h5 h6, no h5 h7⟩
    · refine .inr ⟨m, em, cls, dd, t, by rw [e.g, e.k]; exact e0, ⟨u.keep _ _ h1 h2, u.notin h1 h2, no h1 h3⟩, ⟨u.keep _ _ t1 t2, u.notin t1 t2, no t1 t3⟩, h4.imp id ?_⟩
      rintro ⟨d, fs, e2, h5, h6, h7⟩
      exact ⟨d, fs, e2, u.keep _ _ h5 h6, u.notin h5 h6, no h5 h7⟩⟩
noncomputable def ItOk (F : Fx) (μ : List Addr) (H : Hp) (J : It) (ds : List D) : Prop := ds.length ≤ 16777216 ∧
  ∀ (F' : Fx) (μ' : List Addr) (H' : Hp) (S' : Sto) (i : Nat), Ext F F' H → Up μ H μ' H' → RS F' μ' H' S' → i ≤ ds.length →
    (∀ d, ds[i]? = some d → J.go i H' ∧ ∀ x H'', J.yld i H' x H'' → Up μ' H' μ' H'' ∧ RS F' μ' H'' S' ∧ RD F' μ' H'' x d) ∧ (i = ds.length → J.stop i H')
structure DI (X : Cx) (W : WX) (tg iter : Expr) (m : MA) : Prop where
  ex : ∃ wi, PI X tg iter wi ∧ ∀ ξ μ σ H ρ S R, RG (fx X ξ) μ H σ ρ → RS (fx X ξ) μ H S → WR (fx X ξ) (fun μ H (J : It) (ds : List D) => ItOk (fx X ξ) μ H J ds) (m ρ S) R (fun cls dd H' => W cls dd σ H') μ H → wi σ H R
section
variable {X : Cx} {W : WX} {tg e a b c : Expr} {es : List Expr} {st : Stmt} {sts ts : List Stmt} {ma mb mc m : ME} {mr : MA} {m1 m2 : MS} {pos p p1 p2 p3 : Pos}
noncomputable def Sized (K : Frag) (H : Hp) : Prop := ∀ a xs, SqL K H a xs ∨ SqT K H a xs → xs.length ≤ 16777216
theorem sized_of {pins : List (Addr × Obj)} {σ : St} {H : Hp} {s : Shared} (I : Inv X pins σ H s) : Sized X.K H := fun a xs h => by
  rcases h with h | h
  · obtain ⟨_, _, _, z⟩ := I.list h
    rw [sizeLine_eq] at z; exact z
  · obtain ⟨_, _, _, z⟩ := I.tuple h
    rw [sizeLine_eq] at z; exact z
theorem piSized {wi : TI} (h : PI X tg e wi) : PI X tg e (fun σ H R => wi σ H fun J H1 => Sized X.K H1 → R J H1) := ⟨fun pins s σ H R I hw =>
  thn (h.run pins s σ H _ I hw) fun v s1 h1 => thn h1 fun itv s2 ⟨it, fp, tn, J, H', a1, a2, a3, a4, a5, a6⟩ => ⟨it, fp, tn, J, H', a1, a2, a3, a4, a5, a6 (sized_of a2)⟩⟩
theorem piOr {wi wj : TI} (h : PI X tg e wi) (h' : PI X tg e wj) : PI X tg e (fun σ H R => wi σ H R ∨ wj σ H R) := ⟨fun pins s σ H R I hw =>
  hw.elim (h.run pins s σ H R I) (h'.run pins s σ H R I)⟩
theorem itt_ok {F : Fx} {μ : List Addr} {H : Hp} {a : Addr} {xs : List V} {ds : List D} (f : FzT F μ H a xs) (r : RDs F μ H xs ds) (z : Sized F.K H) : ItOk F μ H (Itt F.K a) ds := by
  refine ⟨by rw [← r.length]; exact z a xs (.inr f.sq), fun F' μ' H' S' i e u s hi => ⟨fun d hd => ?_, fun hi => ?_⟩⟩
  · obtain ⟨v, h1, h2⟩ := r.get hd
    refine ⟨⟨xs, v, (f.up u).sq, h1⟩, fun x H'' y => ?_⟩
    obtain ⟨e1, y⟩ := y
    subst e1
    have q := y xs (f.up u).sq
    rw [h1] at q; cases q
    exact ⟨.refl, s, h2.mv (.ext e u)⟩
  · exact ⟨xs, (f.up u).sq, by rw [r.length, hi]; exact Nat.le_refl _⟩
theorem itl_ok {F : Fx} {μ : List Addr} {H : Hp} {a : Addr} {xs : List V} {ds : List D} (f : FzL F μ H a xs) (r : RDs F μ H xs ds) (z : Sized F.K H) : ItOk F μ H (Itl F.K a) ds := by
  refine ⟨by rw [← r.length]; exact z a xs (.inl f.sq), fun F' μ' H' S' i e u s hi => ⟨fun d hd => ?_, fun hi => ?_⟩⟩
  · obtain ⟨v, h1, h2⟩ := r.get hd
    refine ⟨⟨xs, v, (f.up u).sq, h1⟩, fun x H'' y => ?_⟩
    obtain ⟨e1, y⟩ := y
    subst e1
    have q := y xs (f.up u).sq
    rw [h1] at q; cases q
    exact ⟨.refl, s, h2.mv (.ext e u)⟩
  · exact ⟨xs, (f.up u).sq, by rw [r.length, hi]; exact Nat.le_refl _⟩
noncomputable def iSeq (m : ME) : MA := fun ρ S => (m ρ S).bind fun d S1 => match d with
  | .tup ds => .ok ds S1
  | .lst ds => .ok ds S1
  | _ => .bad
theorem di_seq (h : DE X W e m) : DI X W tg e (iSeq m) := by
  obtain ⟨te, pe, k⟩ := h
  refine ⟨_, piOr (piSized (pi_tup pe)) (piSized (pi_list pe)), fun ξ μ σ H ρ S R g s h => ?_⟩
  cases e1 : m ρ S with
  | bad => unfold iSeq at h; rw [e1] at h; exact h.elim
  | exc c fs S1 =>
    unfold iSeq at h; rw [e1] at h
    refine .inl (k ξ μ σ H ρ S _ g s ?_)
    rw [e1]; exact h
  | ok d S1 =>
    cases d with
    | tup ds =>
      refine .inl (k ξ μ σ H ρ S _ g s ?_)
      unfold iSeq at h
      rw [e1] at h ⊢
      intro v μ1 H1 u1 s1 r1
      cases r1 with
      | @tup a xs _ f r => exact ⟨a, rfl, ⟨xs, f.sq⟩, fun z => h _ μ1 H1 u1 s1 (itt_ok f r z)⟩
    | lst ds =>
      refine .inr (k ξ μ σ H ρ S _ g s ?_)
      unfold iSeq at h
      rw [e1] at h ⊢
      intro v μ1 H1 u1 s1 r1
      cases r1 with
      | @lst a xs _ f r => exact ⟨a, rfl, ⟨xs, f.sq⟩, fun z => h _ μ1 H1 u1 s1 (itl_ok f r z)⟩
    | _ => unfold iSeq at h; rw [e1] at h; exact h.elim
noncomputable def rngD (lo : Int) (n : Nat) : List D := (List.range n).map fun (i : Nat) => D.int (lo + i)
theorem rngD_length {lo : Int} {n : Nat} : (rngD lo n).length = n := by unfold rngD; rw [List.length_map, List.length_range]
theorem itr_ok {F : Fx} {μ : List Addr} {H : Hp} {lo : Int} {n : Nat} (hn : n ≤ 16777216) : ItOk F μ H (Itr lo n) (rngD lo n) := by
  refine ⟨by rw [rngD_length]; exact hn, fun F' μ' H' S' i e u s hi => ⟨fun d hd => ?_, fun hi => ?_⟩⟩
  · have hl : i < n := by
      have q := (List.getElem?_eq_some_iff.mp hd).1
      rw [rngD_length] at q; exact q
    refine ⟨hl, fun x H'' y => ?_⟩
    obtain ⟨e1, y⟩ := y
    subst e1
    subst y
    have e2 : d = .int (lo + i) := by
      unfold rngD at hd
      rw [List.getElem?_map, List.getElem?_range hl] at hd
      exact (Option.some.inj hd).symm
    subst e2
    exact ⟨.refl, s, .int _⟩
  · rw [rngD_length] at hi
    exact Nat.le_of_eq hi.symm
noncomputable def iRange1 (a : MA) : MA := fun ρ S => (a ρ S).bind fun ds S1 => match ds with
  | [.int j] => @ite _ (j ≤ 16777216 ∧ -4611686018427387904 ≤ j) (Classical.propDecidable _) (.ok (rngD 0 j.toNat) S1) .bad
  | _ => .bad
theorem di_range1 (ha : DA X W [a] mr) (hm : X.mg "range" = none) (hg : Gl X "range" := by rfl) (hs : starEach [a] X.env = [(false, eval a X.env)] := by rfl) : DI X W tg (.Call (.Name "range" p) [a] [] pos) (iRange1 mr) := by
  obtain ⟨ta, pa, ka⟩ := ha
  refine ⟨_, pi_range1 hg hm pa hs, fun ξ μ σ H ρ S R g s h => ka ξ μ σ H ρ S _ g s (WR.bind h fun ds S1 vs μ1 H1 u1 s1 r1 h1 => ?_)⟩
  cases r1 with
  | nil => exact h1.elim
  | @cons v vs d ds r rr =>
    cases rr with
    | cons _ _ => cases d <;> exact h1.elim
    | nil =>
      cases r with
      | int j =>
        simp only at h1
        by_cases c : j ≤ 16777216 ∧ -4611686018427387904 ≤ j
        · rw [if_pos c] at h1
          exact ⟨j, rfl, by omega, by omega, h1 _ μ1 H1 .refl s1 (itr_ok (by omega))⟩
        · rw [if_neg c] at h1; exact h1.elim
      | _ => exact h1.elim
noncomputable def iRange2 (a : MA) : MA := fun ρ S => (a ρ S).bind fun ds S1 => match ds with
  | [.int i, .int j] => @ite _ (-1000000000000 ≤ i ∧ i ≤ 1000000000000 ∧ -1000000000000 ≤ j ∧ j ≤ 1000000000000 ∧ j - i ≤ 16777216) (Classical.propDecidable _) (.ok (rngD i (j - i).toNat) S1) .bad
  | _ => .bad
theorem di_range2 (ha : DA X W [a, b] mr) (hm : X.mg "range" = none) (hg : Gl X "range" := by rfl) (hs : starEach [a, b] X.env = [(false, eval a X.env), (false, eval b X.env)] := by rfl) (hs2 : starEach [b] X.env = [(false, eval b X.env)] := by rfl) :
    DI X W tg (.Call (.Name "range" p) [a, b] [] pos) (iRange2 mr) := by
  obtain ⟨ta, pa, ka⟩ := ha
  refine ⟨_, pi_range2 hg hm pa hs hs2, fun ξ μ σ H ρ S R g s h => ka ξ μ σ H ρ S _ g s (WR.bind h fun ds S1 vs μ1 H1 u1 s1 r1 h1 => ?_)⟩
  cases r1 with
  | nil => exact h1.elim
  | @cons v vs d ds r rr =>
    cases rr with
    | nil => cases d <;> exact h1.elim
    | @cons v2 vs2 d2 ds2 r2 rr2 =>
      cases rr2 with
      | cons _ _ => cases d <;> cases d2 <;> exact h1.elim
      | nil =>
        cases r with
        | int i =>
          cases r2 with
          | int j =>
            simp only at h1
            by_cases c : -1000000000000 ≤ i ∧ i ≤ 1000000000000 ∧ -1000000000000 ≤ j ∧ j ≤ 1000000000000 ∧ j - i ≤ 16777216
            · rw [if_pos c] at h1
              exact ⟨i, j, rfl, ⟨by omega, by omega, by omega, by omega⟩, h1 _ μ1 H1 .refl s1 (itr_ok (by omega))⟩
            · rw [if_neg c] at h1; exact h1.elim
          | _ => exact h1.elim
        | _ => exact h1.elim
noncomputable def forL (f : D → Rho → Option Rho) (mb : MS) : List D → Rho → Sto → Out
  | [], ρ, S => .nx ρ S
  | d :: r, ρ, S => match f d ρ with
    | none => .bad
    | some ρ1 => match mb ρ1 S with
      | .nx ρ2 S2 => forL f mb r ρ2 S2
      | .ct ρ2 S2 => forL f mb r ρ2 S2
      | .bk ρ2 S2 => .nx ρ2 S2
      | .rt d S2 => .rt d S2
      | .exc c fs ρ2 S2 => .exc c fs ρ2 S2
      | .bad => .bad
noncomputable def mFor (mi : MA) (f : D → Rho → Option Rho) (mb : MS) : MS := fun ρ S => ofRes (mi ρ S) ρ fun ds S1 => forL f mb ds ρ S1
theorem ds_for {f : D → Rho → Option Rho} {is : List Nat} {mb : MS} (hp : PassesOwn (model X.prog X.w) X.A X.env X.xe) (hc : X.calm = true) (hi : DI X W tg e mr) (hg : DG X tg f is) (hb : DSs X W sts mb)
    (hs : ∀ x, foldedSetIterable e X.env x = pure x := by intro _; rfl) : DS X W (.For tg e sts [] pos) (mFor mr f mb) := by
  obtain ⟨wi, pi, ki⟩ := hi
  obtain ⟨tg', pg, kg⟩ := hg
  obtain ⟨tb, pb, kb⟩ := hb
  refine ⟨_, ps_for hp hc pi pg pb hs, fun ξ μ σ H ρ S D g s h => ki ξ μ σ H ρ S _ g s (WS'.bind g h fun ds S1 J μ1 H1 u1 s1 r1 h1 => ?_)⟩
  refine ⟨fun i m σ' H' => ∃ μ' ρ' S', Up μ1 H1 μ' H' ∧ RS (fx X ξ) μ' H' S' ∧ RG (fx X ξ) μ' H' σ' ρ' ∧ i ≤ ds.length ∧ m = ds.length - i ∧ WS' (fx X ξ) (forL f mb (ds.drop i) ρ' S') D W μ' H',
    ⟨_, μ1, ρ, S1, .refl, s1, g.up u1, Nat.zero_le _, rfl, by rw [List.drop_zero]; exact h1⟩, ?_⟩
  rintro i m σ' H' ⟨μ', ρ', S', u', s', g', hi, rfl, w⟩
  obtain ⟨t1, t2⟩ := r1.2 (fx X ξ) μ' H' S' i .refl u' s' hi
  by_cases hl : i < ds.length
  · have hd : ds[i]? = some ds[i] := List.getElem?_eq_getElem hl
    obtain ⟨go, yl⟩ := t1 _ hd
    rw [List.drop_eq_getElem_cons hl] at w
    unfold forL at w
    cases ef : f ds[i] ρ' with
    | none => rw [ef] at w; exact w.elim
    | some ρ1 =>
      rw [ef] at w
      simp only at w
      refine .inr ⟨go, fun σ2 H2 => ∃ μ' ρ' S', Up μ1 H1 μ' H2 ∧ RS (fx X ξ) μ' H2 S' ∧ RG (fx X ξ) μ' H2 σ2 ρ' ∧ WS' (fx X ξ) (forL f mb (ds.drop (i + 1)) ρ' S') D W μ' H2,
        fun σ2 H2 ⟨μ2, ρ2, S2, a1, a2, a3, a4⟩ => ⟨_, by omega, μ2, ρ2, S2, a1, a2, a3, hl, rfl, a4⟩, fun x H2 y => ?_⟩
      obtain ⟨u2, s2, r2⟩ := yl x H2 y
      refine kg ξ μ' σ' H2 ρ' x _ ρ1 _ (g'.up u2) r2 ef fun σ2 g2 _ => ?_
      refine kb ξ μ' σ2 H2 ρ1 S' _ g2 s2 ?_
      have w := WS'.shift u2 w
      cases eb : mb ρ1 S' with
      | nx ρ2 S2 =>
        rw [eb] at w
        exact fun σ3 μ3 H3 u3 s3 g3 => ⟨μ3, ρ2, S2, u'.trans (u2.trans u3), s3, g3, w.shift u3⟩
      | ct ρ2 S2 =>
        rw [eb] at w
        exact fun σ3 μ3 H3 u3 s3 g3 => ⟨μ3, ρ2, S2, u'.trans (u2.trans u3), s3, g3, w.shift u3⟩
      | bk ρ2 S2 => rw [eb] at w; exact w
      | rt d S2 => rw [eb] at w; exact w
      | exc c fs ρ2 S2 => rw [eb] at w; exact w
      | bad => rw [eb] at w; exact w
  · have e : i = ds.length := by omega
    rw [e, List.drop_length] at w
    exact .inl ⟨t2 e, w σ' μ' H' .refl s' g'⟩
end
noncomputable def wipeD (ρ : Rho) : List Nat → Rho
  | [] => ρ
  | v :: vs => (wipeD ρ vs).set v none
theorem RG.wipe {F : Fx} {μ : List Addr} {H : Hp} {σ : St} {ρ : Rho} (g : RG F μ H σ ρ) : ∀ vs : List Nat, RG F μ H (L2.wipe σ vs) (wipeD ρ vs)
  | [] => g
  | v :: vs => (RG.wipe g vs).forget (σ' := σ) v
noncomputable def lcL (f : D → Rho → Option Rho) (mt me : ME) (ρ : Rho) : List D → Sto → Option (List D × Sto)
  | [], S => some ([], S)
  | d :: r, S => match f d ρ with
    | none => none
    | some ρ1 => match mt ρ1 S with
      | .ok (.bl true) S1 => match me ρ1 S1 with
        | .ok y S2 => match lcL f mt me ρ r S2 with
          | some (ys, S3) => some (y :: ys, S3)
          | none => none
        | _ => none
      | .ok (.bl false) S1 => lcL f mt me ρ r S1
      | _ => none
noncomputable def mLc (mi : MA) (f : D → Rho → Option Rho) (mt me : ME) (vs : List Nat) : MA := fun ρ S => (mi ρ S).bind fun ds S1 => match lcL f mt me (wipeD ρ vs) ds S1 with
  | some (ys, S2) => .ok ys S2
  | none => .bad
noncomputable def mYes : ME := fun _ S => .ok (.bl true) S
abbrev W0 : WX := fun _ _ _ _ => False
structure DTs (X : Cx) (W : WX) (es : List Expr) (m : ME) : Prop where
  ex : ∃ te, PTs X es te ∧ ∀ ξ μ σ H ρ S Q, RG (fx X ξ) μ H σ ρ → RS (fx X ξ) μ H S → WT' (fx X ξ) (m ρ S) Q (fun cls dd H' => W cls dd σ H') μ H → te σ H Q
section
variable {X : Cx} {W : WX} {tg e a b c : Expr} {es : List Expr} {st : Stmt} {sts ts : List Stmt} {ma mb mc m : ME} {mr : MA} {m1 m2 : MS} {pos p p1 p2 p3 : Pos}
theorem dts_nil : DTs X W [] mYes := ⟨_, pts_nil, fun ξ μ σ H ρ S Q g s h => h μ H .refl s⟩
theorem dts_one (h : DT X W c mc) : DTs X W [c] mc := let ⟨_, p, k⟩ := h; ⟨_, pts_one p, k⟩
theorem fx_fam {ι : Type} {Xf : ι → Cx} {K : Frag} {mg : Str → Option Value} {w : World} {ξ : List Addr} {i : ι} (hK : ∀ i, (Xf i).K = K) (hg : ∀ i, ((Xf i).mg, (Xf i).w) = (mg, w)) : fx (Xf i) ξ = ⟨K, mg, ξ, w⟩ := by
  have e1 : (Xf i).mg = mg := congrArg Prod.fst (hg i)
  have e2 : (Xf i).w = w := congrArg Prod.snd (hg i)
  unfold fx
  rw [hK, e1, e2]
theorem de_all {ι : Type} {Xf : ι → Cx} {e : Expr} {m : ME} {K : Frag} {mg : Str → Option Value} {w : World} (hK : ∀ i, (Xf i).K = K) (hg : ∀ i, ((Xf i).mg, (Xf i).w) = (mg, w)) (h : ∀ i, DE (Xf i) W e m) :
    ∃ te, (∀ i, PE (Xf i) e te) ∧ ∀ ξ μ σ H ρ S Q, RG ⟨K, mg, ξ, w⟩ μ H σ ρ → RS ⟨K, mg, ξ, w⟩ μ H S → WE' ⟨K, mg, ξ, w⟩ (m ρ S) Q (fun cls dd H' => W cls dd σ H') μ H → te σ H Q := by
  refine ⟨fun σ H Q => ∀ i, ∃ te, PE (Xf i) e te ∧ te σ H Q, fun i => ⟨fun pins s σ H Q I hw => ?_⟩, fun ξ μ σ H ρ S Q g s hw i => ?_⟩
  · obtain ⟨te, p, q⟩ := hw i
    exact p.run pins s σ H Q I q
  · obtain ⟨te, p, k⟩ := h i
    refine ⟨te, p, k ξ μ σ H ρ S Q ?_ ?_ ?_⟩
    all_goals (rw [fx_fam hK hg]; assumption)
theorem dts_all {ι : Type} {Xf : ι → Cx} {es : List Expr} {m : ME} {K : Frag} {mg : Str → Option Value} {w : World} (hK : ∀ i, (Xf i).K = K) (hg : ∀ i, ((Xf i).mg, (Xf i).w) = (mg, w)) (h : ∀ i, DTs (Xf i) W es m) :
    ∃ te, (∀ i, PTs (Xf i) es te) ∧ ∀ ξ μ σ H ρ S Q, RG ⟨K, mg, ξ, w⟩ μ H σ ρ → RS ⟨K, mg, ξ, w⟩ μ H S → WT' ⟨K, mg, ξ, w⟩ (m ρ S) Q (fun cls dd H' => W cls dd σ H') μ H → te σ H Q := by
  refine ⟨fun σ H Q => ∀ i, ∃ te, PTs (Xf i) es te ∧ te σ H Q, fun i => ⟨fun pins s σ H Q I hw => ?_⟩, fun ξ μ σ H ρ S Q g s hw i => ?_⟩
  · obtain ⟨te, p, q⟩ := hw i
    exact p.run pins s σ H Q I q
  · obtain ⟨te, p, k⟩ := h i
    refine ⟨te, p, k ξ μ σ H ρ S Q ?_ ?_ ?_⟩
    all_goals (rw [fx_fam hK hg]; assumption)
theorem dg_all {ι : Type} {Xf : ι → Cx} {tg : Expr} {f : D → Rho → Option Rho} {is : List Nat} {K : Frag} {mg : Str → Option Value} {w : World} (hK : ∀ i, (Xf i).K = K) (hg : ∀ i, ((Xf i).mg, (Xf i).w) = (mg, w)) (h : ∀ i, DG (Xf i) tg f is) :
    ∃ t, (∀ i, PG (Xf i) tg t) ∧ ∀ ξ μ σ H ρ v d ρ' (Q : St → Hp → Prop), RG ⟨K, mg, ξ, w⟩ μ H σ ρ → RD ⟨K, mg, ξ, w⟩ μ H v d → f d ρ = some ρ' →
    (∀ σ', RG ⟨K, mg, ξ, w⟩ μ H σ' ρ' → (∀ js : List Nat, (∀ i ∈ is, i ∈ js) → wipe σ' js = wipe σ js) → Q σ' H) → t v σ H Q := by
  refine ⟨fun v σ H Q => ∀ i, ∃ t, PG (Xf i) tg t ∧ t v σ H Q, fun i => ⟨fun pins s σ H v u Q I r hw => ?_⟩, fun ξ μ σ H ρ v d ρ' Q g r e k i => ?_⟩
  · obtain ⟨t, p, q⟩ := hw i
    exact p.run pins s σ H v u Q I r q
  · obtain ⟨t, p, kk⟩ := h i
    refine ⟨t, p, kk ξ μ σ H ρ v d ρ' Q ?_ ?_ e fun σ' g' w => k σ' ?_ w⟩
    · rw [fx_fam hK hg]; exact g
    · rw [fx_fam hK hg]; exact r
    · have g'' := g'
      rw [fx_fam hK hg] at g''
      exact g''
abbrev Blk := Shared × Hp × Addr × List (Str × Addr) × List Addr
abbrev blkOf (X : Cx) (scope : Scope) (i : Blk) : Cx := X.blk i.1 i.2.1 scope (compEnvC scope i.2.2.2.1 i.2.2.1 X.env) i.2.2.2.2
theorem lc_read {wi : TI} {tg' : TG} {tt : TT} {te : TE} {f : D → Rho → Option Rho} {is vs : List Nat} {ξ μ : List Addr} {σ : St} {H : Hp} {ρ : Rho} {S : Sto} {Q : VK} {Wx : Value → Option Addr → Hp → Prop} {mi : MA} {mt me : ME}
    (ki : ∀ R, WR (fx X ξ) (fun μ H (J : It) (ds : List D) => ItOk (fx X ξ) μ H J ds) (mi ρ S) R Wx μ H → wi σ H R)
    (kg : ∀ ξ μ σ H ρ v d ρ' (Q : St → Hp → Prop), RG (fx X ξ) μ H σ ρ → RD (fx X ξ) μ H v d → f d ρ = some ρ' → (∀ σ', RG (fx X ξ) μ H σ' ρ' → (∀ js : List Nat, (∀ i ∈ is, i ∈ js) → wipe σ' js = wipe σ js) → Q σ' H) → tg' v σ H Q)
    (kt : ∀ ξ μ σ H ρ S Q, RG (fx X ξ) μ H σ ρ → RS (fx X ξ) μ H S → WT' (fx X ξ) (mt ρ S) Q (fun cls dd H' => W0 cls dd σ H') μ H → tt σ H Q)
    (ke : ∀ ξ μ σ H ρ S Q, RG (fx X ξ) μ H σ ρ → RS (fx X ξ) μ H S → WE' (fx X ξ) (me ρ S) Q (fun cls dd H' => W0 cls dd σ H') μ H → te σ H Q)
    (hv : ∀ i ∈ is, i ∈ vs) (g : RG (fx X ξ) μ H σ ρ) (s : RS (fx X ξ) μ H S) (h : WL' (fx X ξ) (mLc mi f mt me vs ρ S) Q Wx μ H) : tLc wi tg' tt te vs σ H Q := by
  refine ki _ (WL'.bind h fun ds S1 J μ1 H1 u1 s1 r1 h1 => ?_)
  intro D hD
  obtain ⟨hz, r1⟩ := r1
  have n1 : D ∉ μ1 := s1.out hD
  have x1 : D ∉ ξ := s1.outX hD
  have ext : Ext (fx X ξ) ((fx X ξ).hold D) H1 := ⟨rfl, rfl, fun a ha => (List.mem_cons.mp ha).elim (fun z => .inr (by rw [z]; exact hD)) .inl⟩
  have main : WL' (fx X ξ) (match lcL f mt me (wipeD ρ vs) ds S1 with
    | some (ys, S2) => Res.ok ys S2
    | none => .bad) Q Wx μ1 H1 := h1
  refine ⟨fun i m H' => ∃ μ' S' acc dacc, Up μ1 H1 μ' H' ∧ RS ((fx X ξ).hold D) μ' H' S' ∧ H' D = some (.lst acc) ∧ RDs ((fx X ξ).hold D) μ' H' acc dacc ∧ acc.length ≤ i ∧ i ≤ ds.length ∧ m = ds.length - i ∧
      ∃ ys S2, lcL f mt me (wipeD ρ vs) (ds.drop i) S' = some (ys, S2) ∧ ∀ μ2 H2 xs, Up μ1 H1 μ2 H2 → RS ((fx X ξ).hold D) μ2 H2 S2 → RDs ((fx X ξ).hold D) μ2 H2 xs (dacc ++ ys) → H2 D = some (.lst xs) → Q (.ref D) H2,
    ⟨_, μ1, S1, [], [], .fresh hD, s1.holds hD, upd_same, .nil, Nat.le_refl _, Nat.zero_le _, rfl, ?_⟩, ?_⟩
  · rw [List.drop_zero]
    cases q : lcL f mt me (wipeD ρ vs) ds S1 with
    | none => rw [q] at main; exact main.elim
    | some r =>
      obtain ⟨ys, S2⟩ := r
      rw [q] at main
      exact ⟨ys, S2, rfl, fun μ2 H2 xs u2 s2 r2 e2 => main D xs μ2 H2 u2 hD s2 r2 e2⟩
  rintro i m H' ⟨μ', S', acc, dacc, u', s', hacc, racc, hla, hi, rfl, ys, S2, eL, fin⟩
  obtain ⟨t1, t2⟩ := r1 ((fx X ξ).hold D) μ' H' S' i ext u' s' hi
  by_cases hl : i < ds.length
  · obtain ⟨go, yl⟩ := t1 _ (List.getElem?_eq_getElem hl)
    rw [List.drop_eq_getElem_cons hl] at eL
    unfold lcL at eL
    cases ef : f ds[i] (wipeD ρ vs) with
    | none => rw [ef] at eL; exact nomatch eL
    | some ρ1 =>
      rw [ef] at eL
      simp only at eL
      refine .inr ⟨go, fun H2 => ∃ μ' S' acc dacc, Up μ1 H1 μ' H2 ∧ RS ((fx X ξ).hold D) μ' H2 S' ∧ H2 D = some (.lst acc) ∧ RDs ((fx X ξ).hold D) μ' H2 acc dacc ∧ acc.length ≤ i + 1 ∧
          ∃ ys S2, lcL f mt me (wipeD ρ vs) (ds.drop (i + 1)) S' = some (ys, S2) ∧ ∀ μ2 H2 xs, Up μ1 H1 μ2 H2 → RS ((fx X ξ).hold D) μ2 H2 S2 → RDs ((fx X ξ).hold D) μ2 H2 xs (dacc ++ ys) → H2 D = some (.lst xs) → Q (.ref D) H2,
        fun H2 ⟨μ2, S3, acc2, dacc2, a1, a2, a3, a4, a5, a6⟩ => ⟨_, by omega, μ2, S3, acc2, dacc2, a1, a2, a3, a4, a5, hl, rfl, a6⟩, fun x H2 y => ?_⟩
      obtain ⟨u2, s2, r2⟩ := yl x H2 y
      have g2 : RG (fx X (D :: ξ)) μ' H2 (wipe σ vs) (wipeD ρ vs) := (((g.up u1).mv (.ext ext (u'.trans u2)))).wipe vs
      refine kg (D :: ξ) μ' (wipe σ vs) H2 (wipeD ρ vs) x _ ρ1 _ g2 r2 ef fun σ3 g3 w3 => ?_
      have nD : D ∉ μ' := (s'.xi D List.mem_cons_self).1
      have eD : H2 D = some (.lst acc) := u2.keep _ _ hacc nD
      have ww : wipe (wipe σ vs) vs = wipe σ vs := by
        refine List.ext_getElem? fun k => ?_
        rw [wipe_get, wipe_get, wipe_length]
        by_cases q : k ∈ vs ∧ k < σ.length
        · rw [if_pos q, if_pos q]
        · rw [if_neg q, if_neg q]
      refine ⟨by rw [w3 vs hv, ww], ?_⟩
      refine kt (D :: ξ) μ' σ3 H2 ρ1 S' _ g3 s2 ?_
      have racc2 := racc.up u2
      cases et : mt ρ1 S' with
      | bad => rw [et] at eL; exact nomatch eL
      | exc c fs S3 => rw [et] at eL; exact nomatch eL
      | ok d S3 =>
        rw [et] at eL
        cases d with
        | bl b =>
          intro μ3 H3 u3 s3
          have eD3 : H3 D = some (.lst acc) := u3.keep _ _ eD nD
          cases b with
          | false =>
            exact ⟨μ3, S3, acc, dacc, u'.trans (u2.trans u3), s3, eD3, racc2.up u3, Nat.le_succ_of_le hla, ys, S2, eL, fin⟩
          | true =>
            simp only at eL
            refine ke (D :: ξ) μ3 σ3 H3 ρ1 S3 _ (g3.up u3) s3 ?_
            cases ee : me ρ1 S3 with
            | bad => rw [ee] at eL; exact nomatch eL
            | exc c fs S4 => rw [ee] at eL; exact nomatch eL
            | ok y S4 =>
              rw [ee] at eL
              intro v μ4 H4 u4 s4 r4
              simp only at eL
              cases er : lcL f mt me (wipeD ρ vs) (ds.drop (i + 1)) S4 with
              | none => rw [er] at eL; exact nomatch eL
              | some q =>
                obtain ⟨zs, S5⟩ := q
                rw [er] at eL
                cases eL
                have nD3 : D ∉ μ3 := (s3.xi D List.mem_cons_self).1
                have eD4 : H4 D = some (.lst acc) := u4.keep _ _ eD3 nD3
                refine ⟨acc, eD4, by rw [sizeLine_eq]; omega, μ4, S4, acc ++ [v], dacc ++ [y], ?_, RS.wr (F := fx X ξ) (p := D) s4, upd_same, RDs.mv (Mv.wr (F := fx X ξ) (p := D)) _ (RDs.append (F := (fx X ξ).hold D) ((racc2.up u3).up u4) (.cons r4 .nil)), by rw [List.length_append, List.length_singleton]; omega, zs, S2, er, fun μ5 H5 xs u5 s5 r5 e5 => fin μ5 H5 xs u5 s5 (by rw [List.append_assoc] at r5; exact r5) e5⟩
                have U := u'.trans (u2.trans (u3.trans u4))
                exact ⟨U.pre, U.new, fun a o ha na => by
                  rw [upd_ne (ne_of_none ha hD)]
                  exact U.keep a o ha na⟩
        | _ => exact nomatch eL
  · have e : i = ds.length := by omega
    rw [e, List.drop_length] at eL
    cases eL
    exact .inl ⟨t2 e, fin μ' H' acc u' s' (by rw [List.append_nil]; exact racc) hacc⟩
theorem dl_lc {elt : Expr} {ifs : List Expr} {scope : Scope} {own : List (Str × Nat)} {f : D → Rho → Option Rho} {is : List Nat} {mt me : ME} (hc : X.calm = true) (hN : X.N.Nodup) (hi : DI X W tg e mr) (ok : BlkOk X.N X.env.scope scope own)
    (hg : ∀ (s : Shared) (H : Hp) (C : Addr) (cl : List (Str × Addr)) (fp : List Addr), DG (X.blk s H scope (compEnvC scope cl C X.env) fp) tg f is)
    (ht : ∀ (s : Shared) (H : Hp) (C : Addr) (cl : List (Str × Addr)) (fp : List Addr), DTs (X.blk s H scope (compEnvC scope cl C X.env) fp) W0 ifs mt)
    (he : ∀ (s : Shared) (H : Hp) (C : Addr) (cl : List (Str × Addr)) (fp : List Addr), DE (X.blk s H scope (compEnvC scope cl C X.env) fp) W0 elt me)
    (hv : ∀ i ∈ is, i ∈ own.map (·.2) := by decide) (hs : ∀ x, foldedSetIterable e X.env x = pure x := by intro _; rfl) : DL X W (.ListComp elt [⟨tg, e, ifs, 0⟩] scope pos) (mLc mr f mt me (own.map (·.2))) := by
  obtain ⟨wi, pi, ki⟩ := hi
  obtain ⟨tg', pg, kg⟩ := dg_all (Xf := blkOf X scope) (K := X.K) (mg := X.mg) (fun _ => rfl) (fun _ => rfl) fun i => hg i.1 i.2.1 i.2.2.1 i.2.2.2.1 i.2.2.2.2
  obtain ⟨tt, pt, kt⟩ := dts_all (Xf := blkOf X scope) (K := X.K) (mg := X.mg) (fun _ => rfl) (fun _ => rfl) fun i => ht i.1 i.2.1 i.2.2.1 i.2.2.2.1 i.2.2.2.2
  obtain ⟨te, pe, ke⟩ := de_all (Xf := blkOf X scope) (K := X.K) (mg := X.mg) (fun _ => rfl) (fun _ => rfl) fun i => he i.1 i.2.1 i.2.2.1 i.2.2.2.1 i.2.2.2.2
  refine ⟨_, pe_lc hc hN pi ok (fun s H C cl fp => pg (s, H, C, cl, fp)) (fun s H C cl fp => pt (s, H, C, cl, fp)) (fun s H C cl fp => pe (s, H, C, cl, fp)) hs, fun ξ μ σ H ρ S Q g s h => ?_⟩
  exact lc_read (fun R => ki ξ μ σ H ρ S R g s) kg kt ke hv g s h
end
end Dm
namespace Dm
open PySem L2 PySem.Spec PyProof.Rows
open PySem.W (Frag)
noncomputable def mDef (np nN : Nat) (b : MS) (ds : List D) (S : Sto) : Res D := if ds.length = np then
    match b (ds.map some ++ List.replicate (nN - np) none) S with
    | .nx _ S' => .ok .non S'
    | .rt d S' => .ok d S'
    | .exc c fs _ S' => .exc c fs S'
    | _ => .bad
  else .bad
noncomputable def spD (w : World) (K : Frag) (mg : Str → Option Value) (m : List D → Sto → Res D) : Sp := fun vs H Q E => ∃ ξ μ ds S, RS ⟨K, mg, ξ, w⟩ μ H S ∧ RDs ⟨K, mg, ξ, w⟩ μ H vs ds ∧ WE' ⟨K, mg, ξ, w⟩ (m ds S) Q (fun cls dd H' => E cls dd H') μ H
structure FnD (P : Program) (w : World) (K : Frag) (mg : Str → Option Value) (base : Heap) (k : Nat) (x : Str) (st : Stmt) (ps : List Str) (m : List D → Sto → Res D) : Prop where
  ex : ∃ f fd, mg x = some (.ref f) ∧ Fun K x x st f fd ∧ Binds K fd ps [] ∧ FnOk P w K mg base (L2.CX P w) k f fd ps (spD w K mg m)
section
variable {P : Program} {w : World} {K : Frag} {mg : Str → Option Value} {base : Heap}
theorem FnD.mono {j k : Nat} {x : Str} {st : Stmt} {ps : List Str} {m : List D → Sto → Res D} (F : FnD P w K mg base j x st ps m) (h : j ≤ k) : FnD P w K mg base k x st ps m :=
  let ⟨f, fd, a, b, c, d⟩ := F; ⟨f, fd, a, b, c, d.mono h⟩
theorem rg_start {F : Fx} {μ : List Addr} {H : Hp} {N : List Str} {vs : List V} {ds : List D} (r : RDs F μ H vs ds) : RG F μ H (L2.start N vs) (ds.map some ++ List.replicate (N.length - ds.length) none) := by
  refine ⟨by unfold L2.start; rw [List.length_append, List.length_append, List.length_map, List.length_map, List.length_replicate, List.length_replicate, r.length], fun i d e => ?_⟩
  by_cases h : i < ds.length
  · rw [List.getElem?_append_left (by rw [List.length_map]; exact h), List.getElem?_map] at e
    cases q : ds[i]? with
    | none => rw [q] at e; exact nomatch e
    | some d' =>
      rw [q] at e
      cases e
      obtain ⟨v, h1, h2⟩ := r.get q
      refine ⟨v, ?_, h2⟩
      unfold L2.start
      rw [List.getElem?_append_left (by rw [List.length_map, r.length]; exact h), List.getElem?_map, h1] <;> rfl
  · rw [List.getElem?_append_right (by rw [List.length_map]; omega), List.getElem?_replicate] at e
    split at e <;> cases e
end
section
variable {X : Cx} {W : WX} {tg e a b c : Expr} {es : List Expr} {kws : List Keyword} {st : Stmt} {sts ts : List Stmt} {ma mb mc m : ME} {mr mk : MA} {m1 m2 : MS} {pos p p1 p2 p3 kpos : Pos} {nm : Option Str}
noncomputable def mCallK (f : List D → Sto → Res D) (n q : Nat) (perm : List Nat) (a k : MA) : ME := fun ρ S => (a ρ S).bind fun xs S1 => (k ρ S1).bind fun zs S2 => if xs.length = n ∧ zs.length = q then f (perm.filterMap ((xs ++ zs)[·]?)) S2 else .bad
structure XcOk (K : Frag) (mg : Str → Option Value) (x : Str) : Prop where
  ex : ∃ C : Addr, mg x = some (.ref C) ∧ PySem.W.excIn K C [.type "ValueError", .type "Exception", .type "BaseException", .type "object"] "ValueError.__new__" = true ∧ PySem.W.keepIn K (.ref C) = true ∧ PySem.W.subIn K (.ref C) (.type "BaseException") = some true ∧ PySem.W.typeIn K (.ref C) = some (.type "type")
noncomputable def mRaise (c : Str) : MS := fun ρ S => .exc c [] ρ S
theorem ds_raise {x msg : Str} {jj : Nat} {pos2 : Pos} (C : XcOk X.K X.mg x) (hc : X.calm = true) (tk : Takes X W) (hg : Gl X x := by rfl) (hdb : (x == ("__debug__" : Str)) = false := by decide) :
    DS X W (.Raise (some (.Call (.Name x p) [.Constant (.str msg) jj p2] [] pos)) none pos2) (mRaise x) := by
  obtain ⟨C, h1, h2, h3, h4, h5⟩ := C
  exact ⟨_, ps_raise hc tk (pmk_own PySem.F.excBase_ValueError h2 h1 h3 (raises_own h4 h5) hg hdb), fun ξ μ σ H ρ S D g s h => h _ none σ μ H .refl s g ⟨h1, .inl ⟨rfl, rfl⟩⟩⟩
noncomputable def mAug (i : Nat) (f : Int → Int → Int) (m : ME) : MS := fun ρ S => match ρ[i]? with
  | some (some (.int a)) => ofRes (m ρ S) ρ fun d S1 => match d with
    | .int b => .nx (ρ.set i (some (.int (f a b)))) S1
    | _ => .bad
  | _ => .bad
end
end Dm
namespace Dm
open PySem L2 PySem.Spec PyProof.Rows
open PySem.W (Frag)
theorem enumNew1 {v : Value} {o : Obj} {Hh : Heap → Prop} (B : Begins v o Hh) :
    Meets (Builtin.«enumerate.__new__» ⟨[.type "enumerate", v], []⟩) (fun _ R s => Hh s.heap ∧
      R (.ok (.ret (.ref (s.heap.push o).objs.size))) { s with heap := (s.heap.push o).push { cls := .type "enumerate", data := .fields #[.none, .bool false, .ref s.heap.objs.size, rawInt 0, .none, .none] } }) :=
  .of_wp fun prog w A R s hh => by
    obtain ⟨hp, g, d, tk, os⟩ := s
    obtain ⟨ha, hb⟩ := hh
    have hsub := sub_enumerate
    have q1 : ∀ {A' : Around} {E : Value → Shared → Prop} {Q : Value → Shared → Prop}, Q (.ref hp.objs.size) ⟨hp.push o, g, d, tk, os⟩ → wpAny (model prog w) A' (pyIter v) Q E ⟨hp, g, d, tk, os⟩ :=
      fun q => B.iter prog w _ _ ⟨hp, g, d, tk, os⟩ _ ha q
    wp_walk using q1
    refine wpAny_stack_any fun st => wpAny_pure ?_
    split
    · rename_i c _ _ _ _ _
      cases (c == Value.type "enumerate") <;> (wp_walk using q1; exact ⟨_, rfl, hb⟩)
    · (wp_walk using q1); exact ⟨_, rfl, hb⟩
theorem enumBegin1 {prog : Program} {w : World} {A : Around} {E : Value → Shared → Prop} {s : Shared} {v : Value} {o : Obj} {Hh : Heap → Prop} {Q : Value → Shared → Prop} (B : Begins v o Hh) (ha : Hh s.heap)
    (k : ∀ h', IsEnum h' (s.heap.objs.size + 1) s.heap.objs.size 0 .none → h'.get? s.heap.objs.size = some o → (∀ b u, s.heap.get? b = some u → h'.get? b = some u) → Q (.ref (s.heap.objs.size + 1)) { s with heap := h' }) :
    wpAny (model prog w) A (call (.type "enumerate") [v]) Q E s := by
  refine callType_new F.called_enumerate (by decide) (F.typeCall_enumerate_1 _) (F.newCall_enumerate_1 _) (fun obj => F.args_object_init_2 obj _) F.entry_enumerate_new (enumNew1 B) ⟨ha, ?_⟩
  have z : (s.heap.push o).objs.size = s.heap.objs.size + 1 := Heap.size_push ..
  have en := Heap.get?_push_size (s.heap.push o) (o := { cls := .type "enumerate", data := .fields #[.none, .bool false, .ref s.heap.objs.size, rawInt 0, .none, .none] }) rfl
  rw [z] at en
  show _ ∧ _
  rw [z]
  exact ⟨⟨_, en, rfl⟩, k _ en (Heap.get?_push_of_some _ (Heap.get?_push_size _ B.free)) fun b u q => Heap.get?_push_of_some _ (Heap.get?_push_of_some _ q)⟩
noncomputable def PrF (i : Nat) (x : V) (H : Hp) (T : Addr) (H' : Hp) : Prop := ∃ o : Obj, o.dict = none ∧ H T = none ∧ H' = upd H T (.frz o (.tup [.int (i : Nat), x]))
noncomputable def IteT (K : Frag) (a : Addr) : It :=
  ⟨fun i H => ∃ (xs : List V) (x : V), SqT K H a xs ∧ xs[i]? = some x, fun i H v H' => ∃ T x, v = .ref T ∧ PrF i x H T H' ∧ ∀ xs, SqT K H a xs → xs[i]? = some x, fun i H => ∃ xs : List V, SqT K H a xs ∧ xs.length ≤ i⟩
theorem turn_enumT {P : Program} {w : World} {K : Frag} {elts : List Expr} {kk : Nat} {tpos : Pos} (a e it : Addr) (hne : e ≠ it) :
    Turn P w K (.Tuple elts kk tpos) (IteT K a) [e, it] e (fun i h => (∃ old, IsEnum h e it ((i : Nat) : Int) old) ∧ h.IsTupleIter it a i) where
  mem := List.mem_cons_self
  obj := fun i h st b hb => by
    obtain ⟨⟨old, he⟩, ⟨o, ho, hc, hd⟩⟩ := st
    rcases List.mem_cons.mp hb with z | z
    · rw [z]; exact ⟨_, he, fun v q => nomatch q⟩
    · rw [List.mem_singleton.mp z]; exact ⟨o, ho, fun v q => by rw [hd] at q; cases q⟩
  keep := fun i h h' st k => by
    obtain ⟨⟨old, he⟩, ⟨o, ho, r⟩⟩ := st
    exact ⟨⟨old, k e List.mem_cons_self _ he⟩, ⟨o, k it (List.mem_cons_of_mem _ List.mem_cons_self) o ho, r⟩⟩
  item := by
    intro X hP hw hK hc i pins s σ H E I hf st hg
    subst hP hw hK
    obtain ⟨⟨old, he⟩, hit⟩ := st
    obtain ⟨xs, x, hq, hx⟩ := hg
    obtain ⟨its, rv, ht, hz⟩ := I.tuple hq
    obtain ⟨u, hu, ru⟩ := rv.get hx
    have hel : e < s.heap.objs.size := Heap.lt_size he
    have hil : it < s.heap.objs.size := by obtain ⟨_, q, _⟩ := hit; exact Heap.lt_size q
    have nai : a ≠ it := by
      rintro rfl
      obtain ⟨o1, q1, c1, _⟩ := ht
      obtain ⟨o2, q2, c2, _⟩ := hit
      rw [q1] at q2; cases q2
      rw [c1] at c2
      exact absurd (Value.type.inj c2) (by decide)
    have nae : e ∉ [it, a] := fun z => by
      rcases List.mem_cons.mp z with z | z
      · exact hne z
      · rw [List.mem_singleton.mp z] at he
        obtain ⟨o1, q1, c1, _⟩ := ht
        have he' : s.heap.get? a = some _ := he
        rw [q1] at he'; cases he'
        exact absurd (Value.type.inj c1) (by decide)
    have D := Draws.tuple (prog := X.prog) (w := X.w) (A := X.A.in1) (by exact I.ok.hd hc) it a nai its.toArray
    have hlt : i < its.toArray.size := by
      have q := (List.getElem?_eq_some_iff.mp hu).1
      rw [List.size_toArray]; exact q
    refine wpAny_pyNext_enum_itemD D he ⟨hit, ht⟩ hlt hne nae fun x' h' tk hx' ho hit' hT hsz hk => ?_
    have ex : x' = u := by
      have hx'' : its.toArray[i]? = some x' := hx'
      rw [List.getElem?_toArray, hu] at hx''
      exact (Option.some.inj hx'').symm
    subst ex
    refine ⟨_, rfl, wpAny_letOwnedTupleGo_enum (s := { s with heap := h', toks := tk + 1 }) ho fun h'' he' sb => ?_⟩
    have hT2 : h''.get? s.heap.objs.size = some { cls := .type "tuple", data := .seq #[.int i tk, x'] } := (sb.2 _ (Nat.ne_of_gt hel)).trans hT
    have new : ObjOk X.prog X.w (upd H s.heap.objs.size (.frz { cls := .type "tuple", data := .seq #[.int i tk, x'] } (.tup [.int (i : Nat), x]))) h'' s.heap.objs.size (.frz { cls := .type "tuple", data := .seq #[.int i tk, x'] } (.tup [.int (i : Nat), x])) :=
      ⟨hT2, by rw [sizeLine_eq]; show 2 ≤ 16777216; decide, [.int i tk, x'], .cons ⟨_, rfl⟩ (.cons ru .nil), ⟨_, hT2, rfl, _, rfl⟩⟩
    have I1 : Inv X pins σ (upd H s.heap.objs.size (.frz { cls := .type "tuple", data := .seq #[.int i tk, x'] } (.tup [.int (i : Nat), x]))) { s with heap := h'', toks := tk + 1 } :=
      I.turnedNew (ch := [e, it]) (fun b ob hb q => (sb.2 b fun z => hb (by rw [z]; exact List.mem_cons_self)).trans (hk b ob (fun z => hb (by rw [z]; exact List.mem_cons_self)) (fun z => hb (by rw [z]; exact List.mem_cons_of_mem _ List.mem_cons_self)) q)) hf (Nat.le_refl _) new
    refine ⟨.ref s.heap.objs.size, _, I1, rfl, ⟨_, x, rfl, ⟨_, rfl, I.hok.fresh (Nat.le_refl _), rfl⟩, fun ys hy => by rw [I.tuple_inj hy hq]; exact hx⟩, ⟨⟨x', ?_⟩, ?_⟩, fun b hb => ?_⟩
    · have e1 : ((i + 1 : Nat) : Int) = (i : Int) + 1 := by omega
      rw [e1]; exact he'
    · obtain ⟨⟨o1, q1, r1⟩, _⟩ := hit'
      exact ⟨o1, (sb.2 it hne.symm).trans q1, r1⟩
    · have hb' : b < s.heap.objs.size := by
        rcases List.mem_cons.mp hb with z | z
        · rw [z]; exact hel
        · rw [List.mem_singleton.mp z]; exact hil
      rw [upd_ne (Nat.ne_of_lt hb')]
      exact (hf b hb).1
  done := by
    intro X hP hw hK hc i pins s σ H E I hf st hg
    subst hP hw hK
    obtain ⟨⟨old, he⟩, hit⟩ := st
    obtain ⟨xs, hq, hx⟩ := hg
    obtain ⟨its, rv, ht, hz⟩ := I.tuple hq
    obtain ⟨f0, f1, f2, f3, f4, f5⟩ := hf it (List.mem_cons_of_mem _ List.mem_cons_self)
    have hl := rv.length
    have nx : its.toArray[i]? = none := by
      rw [List.getElem?_toArray]
      exact List.getElem?_eq_none_iff.mpr (by omega)
    have D : Draws X.prog X.w X.A.in1 it [it, a] i (fun _ _ => False) (fun j hh => j = i ∧ hh.IsTupleIter it a i ∧ hh.IsTuple a its.toArray) :=
      { live := fun j hh z => let ⟨o, ho, _⟩ := z.2.1; ⟨o, ho⟩
        frame := fun j hh h' z k => by
          obtain ⟨z1, ⟨o1, e1, r1⟩, ⟨o2, e2, r2⟩⟩ := z
          exact ⟨z1, ⟨o1, k it List.mem_cons_self o1 e1, r1⟩, ⟨o2, k a (List.mem_cons_of_mem _ List.mem_cons_self) o2 e2, r2⟩⟩
        item := fun j s Q E hj z => absurd z.1 (Nat.ne_of_lt hj)
        done := fun s Q E z kE => wpAny_nextOf_tuple_end (I.ok.hd hc) z.2.1 z.2.2 nx kE }
    exact wpAny_pyNext_enum_endD D he ⟨rfl, hit, ht⟩ fun h' eb => ⟨rfl, I.turned (t' := s.toks) (fun b o hb q => eb b o hb q) f0 f1 f3 f4 f5⟩
  self := fun A i s Q E st k => let ⟨⟨_, he⟩, _⟩ := st; wpAny_pyIter_enum he k
noncomputable def iEnumT (K : Frag) (ta : TA) : TI := fun σ H R => ta σ H fun vs H1 => ∃ a xs, vs = [.ref a] ∧ SqT K H1 a xs ∧ R (IteT K a) H1
theorem pi_enumT {X : Cx} {e : Expr} {ta : TA} {p pos tpos : Pos} {elts : List Expr} {kk : Nat} (hg : Gl X "enumerate") (hm : X.mg "enumerate" = none) (ha : PA X [e] ta) (hs : starEach [e] X.env = [(false, eval e X.env)] := by rfl) :
    PI X (.Tuple elts kk tpos) (.Call (.Name "enumerate" p) [e] [] pos) (iEnumT X.K ta) := by
  refine ⟨fun pins s σ H R I hw => ?_⟩
  refine Call_ (ld_blt I hg hm boot_enumerate (PyProof.Rows.callWith_type1 (thn (ha.run pos pins s σ H _ I hw) fun us s1 hh => ?_) hs rfl))
  obtain ⟨vs, H1, I1, r1, a, xs, ex, hq, q⟩ := hh
  subst ex
  cases r1 with
  | cons r rr =>
    cases rr
    cases r
    obtain ⟨its, rv, ht, hz⟩ := I1.tuple hq
    refine enumBegin1 (begins_tuple a its.toArray) ht fun h' he ho hk => wpAny_pyIter_enum he ?_
    have I2 : Inv X pins σ H1 { s1 with heap := h' } := I1.kept (t' := s1.toks) hk
    refine ⟨s1.heap.objs.size + 1, [s1.heap.objs.size + 1, s1.heap.objs.size], _, _, H1, rfl, I2, turn_enumT a (s1.heap.objs.size + 1) s1.heap.objs.size (Nat.succ_ne_self _), ⟨⟨.none, he⟩, ⟨_, ho, rfl, rfl⟩⟩, fun b hb => ?_, q⟩
    have hle : s1.heap.objs.size ≤ b := by
      rcases List.mem_cons.mp hb with z | z
      · rw [z]; exact Nat.le_succ _
      · rw [List.mem_singleton.mp z]; exact Nat.le_refl _
    exact I1.fpOk hle (I1.hok.fresh hle)
noncomputable def IteL (K : Frag) (a : Addr) : It :=
  ⟨fun i H => ∃ (xs : List V) (x : V), SqL K H a xs ∧ xs[i]? = some x, fun i H v H' => ∃ T x, v = .ref T ∧ PrF i x H T H' ∧ ∀ xs, SqL K H a xs → xs[i]? = some x, fun i H => ∃ xs : List V, SqL K H a xs ∧ xs.length ≤ i⟩
theorem turn_enumL {P : Program} {w : World} {K : Frag} {elts : List Expr} {kk : Nat} {tpos : Pos} (a e it : Addr) (hne : e ≠ it) :
    Turn P w K (.Tuple elts kk tpos) (IteL K a) [e, it] e (fun i h => (∃ old, IsEnum h e it ((i : Nat) : Int) old) ∧ h.IsListIter it a i) where
  mem := List.mem_cons_self
  obj := fun i h st b hb => by
    obtain ⟨⟨old, he⟩, ⟨o, ho, hc, hd⟩⟩ := st
    rcases List.mem_cons.mp hb with z | z
    · rw [z]; exact ⟨_, he, fun v q => nomatch q⟩
    · rw [List.mem_singleton.mp z]; exact ⟨o, ho, fun v q => by rw [hd] at q; cases q⟩
  keep := fun i h h' st k => by
    obtain ⟨⟨old, he⟩, hi⟩ := st
    exact ⟨⟨old, k e List.mem_cons_self _ he⟩, hi.at fun o q => k it (List.mem_cons_of_mem _ List.mem_cons_self) o q⟩
  item := by
    intro X hP hw hK hc i pins s σ H E I hf st hg
    subst hP hw hK
    obtain ⟨⟨old, he⟩, hit⟩ := st
    obtain ⟨xs, x, hq, hx⟩ := hg
    obtain ⟨its, rv, p, hz⟩ := I.list hq
    obtain ⟨u, hu, ru⟩ := rv.get hx
    have hel : e < s.heap.objs.size := Heap.lt_size he
    have hil : it < s.heap.objs.size := by obtain ⟨_, q, _⟩ := hit; exact Heap.lt_size q
    refine wpAny_pyNext_enum_item he hit p.isList (x := u) (by rw [List.getElem?_toArray]; exact hu) hne fun h' ho hit' hT hsz hk => ?_
    refine ⟨_, rfl, wpAny_letOwnedTupleGo_enum (s := { s with heap := h', toks := s.toks + 1 }) ho fun h2 he' sb => ?_⟩
    have hT2 : h2.get? s.heap.objs.size = some { cls := .type "tuple", data := .seq #[.int i s.toks, u] } := (sb.2 _ (Nat.ne_of_gt hel)).trans hT
    have new : ObjOk X.prog X.w (upd H s.heap.objs.size (.frz { cls := .type "tuple", data := .seq #[.int i s.toks, u] } (.tup [.int (i : Nat), x]))) h2 s.heap.objs.size (.frz { cls := .type "tuple", data := .seq #[.int i s.toks, u] } (.tup [.int (i : Nat), x])) :=
      ⟨hT2, by rw [sizeLine_eq]; show 2 ≤ 16777216; decide, [.int i s.toks, u], .cons ⟨_, rfl⟩ (.cons ru .nil), ⟨_, hT2, rfl, _, rfl⟩⟩
    have I1 : Inv X pins σ (upd H s.heap.objs.size (.frz { cls := .type "tuple", data := .seq #[.int i s.toks, u] } (.tup [.int (i : Nat), x]))) { s with heap := h2, toks := s.toks + 1 } :=
      I.turnedNew (ch := [e, it]) (fun b ob hb q => (sb.2 b fun z => hb (by rw [z]; exact List.mem_cons_self)).trans (hk b ob (fun z => hb (by rw [z]; exact List.mem_cons_self)) (fun z => hb (by rw [z]; exact List.mem_cons_of_mem _ List.mem_cons_self)) q)) hf (Nat.le_refl _) new
    refine ⟨.ref s.heap.objs.size, _, I1, rfl, ⟨_, x, rfl, ⟨_, rfl, I.hok.fresh (Nat.le_refl _), rfl⟩, fun ys hy => by rw [I.list_inj hy hq]; exact hx⟩, ⟨⟨u, ?_⟩, hit'.at fun o q => (sb.2 it hne.symm).trans q⟩, fun b hb => ?_⟩
    · have e1 : ((i + 1 : Nat) : Int) = (i : Int) + 1 := by omega
      rw [e1]; exact he'
    · have hb' : b < s.heap.objs.size := by
        rcases List.mem_cons.mp hb with z | z
        · rw [z]; exact hel
        · rw [List.mem_singleton.mp z]; exact hil
      rw [upd_ne (Nat.ne_of_lt hb')]
      exact (hf b hb).1
  done := by
    intro X hP hw hK hc i pins s σ H E I hf st hg
    subst hP hw hK
    obtain ⟨⟨old, he⟩, hit⟩ := st
    obtain ⟨xs, hq, hx⟩ := hg
    obtain ⟨its, rv, p, hz⟩ := I.list hq
    obtain ⟨f0, f1, f2, f3, f4, f5⟩ := hf it (List.mem_cons_of_mem _ List.mem_cons_self)
    have hl := rv.length
    exact wpAny_pyNext_enum_end (I.ok.hd hc) he hit p.isList (by rw [List.getElem?_toArray]; exact List.getElem?_eq_none_iff.mpr (by omega)) fun h' eb => ⟨rfl, I.turned (t' := s.toks) (fun b o hb q => eb b o hb q) f0 f1 f3 f4 f5⟩
  self := fun A i s Q E st k => let ⟨⟨_, he⟩, _⟩ := st; wpAny_pyIter_enum he k
noncomputable def iEnumL (K : Frag) (ta : TA) : TI := fun σ H R => ta σ H fun vs H1 => ∃ a xs, vs = [.ref a] ∧ SqL K H1 a xs ∧ R (IteL K a) H1
theorem pi_enumL {X : Cx} {e : Expr} {ta : TA} {p pos tpos : Pos} {elts : List Expr} {kk : Nat} (hg : Gl X "enumerate") (hm : X.mg "enumerate" = none) (ha : PA X [e] ta) (hs : starEach [e] X.env = [(false, eval e X.env)] := by rfl) :
    PI X (.Tuple elts kk tpos) (.Call (.Name "enumerate" p) [e] [] pos) (iEnumL X.K ta) := by
  refine ⟨fun pins s σ H R I hw => ?_⟩
  refine Call_ (ld_blt I hg hm boot_enumerate (PyProof.Rows.callWith_type1 (thn (ha.run pos pins s σ H _ I hw) fun us s1 hh => ?_) hs rfl))
  obtain ⟨vs, H1, I1, r1, a, xs, ex, hq, q⟩ := hh
  subst ex
  cases r1 with
  | cons r rr =>
    cases rr
    cases r
    obtain ⟨its, rv, p', hz⟩ := I1.list hq
    refine call_enumerate_list p'.isList fun h' he hit hsz hk => wpAny_pyIter_enum he ?_
    have I2 : Inv X pins σ H1 { s1 with heap := h' } := I1.kept (t' := s1.toks) hk
    refine ⟨s1.heap.objs.size + 1, [s1.heap.objs.size + 1, s1.heap.objs.size], _, _, H1, rfl, I2, turn_enumL a (s1.heap.objs.size + 1) s1.heap.objs.size (Nat.succ_ne_self _), ⟨⟨.none, he⟩, hit⟩, fun b hb => ?_, q⟩
    have hle : s1.heap.objs.size ≤ b := by
      rcases List.mem_cons.mp hb with z | z
      · rw [z]; exact Nat.le_succ _
      · rw [List.mem_singleton.mp z]; exact Nat.le_refl _
    exact I1.fpOk hle (I1.hok.fresh hle)
noncomputable def enumD (ds : List D) : List D := ds.zipIdx.map fun p => .tup [.int (p.2 : Nat), p.1]
theorem enumD_length {ds : List D} : (enumD ds).length = ds.length := by unfold enumD; rw [List.length_map, List.length_zipIdx]
theorem enumD_get {ds : List D} {i : Nat} {d : D} (h : (enumD ds)[i]? = some d) : ∃ x, ds[i]? = some x ∧ d = .tup [.int (i : Nat), x] := by
  unfold enumD at h
  rw [List.getElem?_map, List.getElem?_zipIdx] at h
  cases q : ds[i]? with
  | none => rw [q] at h; exact nomatch h
  | some x =>
    rw [q] at h
    refine ⟨x, rfl, ?_⟩
    have h' := Option.some.inj h
    rw [← h', Nat.zero_add]
noncomputable def iEnumS (m : ME) : MA := fun ρ S => (m ρ S).bind fun d S1 => match d with
  | .tup ds => .ok (enumD ds) S1
  | .lst ds => .ok (enumD ds) S1
  | _ => .bad
section
variable {X : Cx} {W : WX} {tg e a b c : Expr} {m : ME} {pos p tpos : Pos}
theorem di_enum {elts : List Expr} {kk : Nat} (h : DE X W e m) (hm : X.mg "enumerate" = none) (hg : Gl X "enumerate" := by rfl) (hs : starEach [e] X.env = [(false, eval e X.env)] := by rfl)
    (hs1 : starEach [e] X.env = (false, eval e X.env) :: starEach [] X.env := by rfl) : DI X W (.Tuple elts kk tpos) (.Call (.Name "enumerate" p) [e] [] pos) (iEnumS m) := by
  obtain ⟨te, pe, k⟩ := h
  refine ⟨_, piOr (piSized (pi_enumT hg hm (pa_cons pe pa_nil hs1) hs)) (piSized (pi_enumL hg hm (pa_cons pe pa_nil hs1) hs)), fun ξ μ σ H ρ S R g s h => ?_⟩
  cases e1 : m ρ S with
  | bad => unfold iEnumS at h; rw [e1] at h; exact h.elim
  | exc c fs S1 =>
    unfold iEnumS at h; rw [e1] at h
    refine .inl (k ξ μ σ H ρ S _ g s ?_)
    rw [e1]; exact h
  | ok d S1 =>
    cases d with
    | tup ds =>
      refine .inl (k ξ μ σ H ρ S _ g s ?_)
      unfold iEnumS at h
      rw [e1] at h ⊢
      intro v μ1 H1 u1 s1 r1
      cases r1 with
      | @tup a xs _ f r =>
        refine ⟨a, xs, rfl, f.sq, fun z => h _ μ1 H1 u1 s1 ⟨by rw [enumD_length, ← r.length]; exact z a xs (.inr f.sq), fun F' μ' H' S' i ex u s hi => ⟨fun d hd => ?_, fun hi => ?_⟩⟩⟩
        · obtain ⟨x, hx, rfl⟩ := enumD_get hd
          obtain ⟨v, h1, h2⟩ := r.get hx
          refine ⟨⟨xs, v, (f.up u).sq, h1⟩, fun y H'' yy => ?_⟩
          obtain ⟨T, x', e2, ⟨o, ho, e3, e4⟩, e5⟩ := yy
          subst e2 e4
          have q := e5 xs (f.up u).sq
          rw [h1] at q; cases q
          exact ⟨.fresh e3, s.fresh e3, .tup (.inl ⟨.new ho, s.out e3, s.outX e3⟩) (.cons (.int _) (.cons ((h2.mv (.ext ex u)).up (.fresh e3)) .nil))⟩
        · rw [enumD_length] at hi
          exact ⟨xs, (f.up u).sq, by rw [r.length, hi]; exact Nat.le_refl _⟩
    | lst ds =>
      refine .inr (k ξ μ σ H ρ S _ g s ?_)
      unfold iEnumS at h
      rw [e1] at h ⊢
      intro v μ1 H1 u1 s1 r1
      cases r1 with
      | @lst a xs _ f r =>
        refine ⟨a, xs, rfl, f.sq, fun z => h _ μ1 H1 u1 s1 ⟨by rw [enumD_length, ← r.length]; exact z a xs (.inl f.sq), fun F' μ' H' S' i ex u s hi => ⟨fun d hd => ?_, fun hi => ?_⟩⟩⟩
        · obtain ⟨x, hx, rfl⟩ := enumD_get hd
          obtain ⟨v, h1, h2⟩ := r.get hx
          refine ⟨⟨xs, v, (f.up u).sq, h1⟩, fun y H'' yy => ?_⟩
          obtain ⟨T, x', e2, ⟨o, ho, e3, e4⟩, e5⟩ := yy
          subst e2 e4
          have q := e5 xs (f.up u).sq
          rw [h1] at q; cases q
          exact ⟨.fresh e3, s.fresh e3, .tup (.inl ⟨.new ho, s.out e3, s.outX e3⟩) (.cons (.int _) (.cons ((h2.mv (.ext ex u)).up (.fresh e3)) .nil))⟩
        · rw [enumD_length] at hi
          exact ⟨xs, (f.up u).sq, by rw [r.length, hi]; exact Nat.le_refl _⟩
    | _ => unfold iEnumS at h; rw [e1] at h; exact h.elim
end
end Dm
namespace Dm
open PySem L2 PySem.Spec PyProof.Rows
open PySem.W (Frag)
section
variable {prog : Program} {w : World} {A : Around} {E : Value → Shared → Prop} {s : Shared}
theorem backPlaces (n : Nat) : Builtin.Slice.sliceAdjust none none (-1) (n : Int) = ((n : Int) - 1, -1) ∧ Builtin.Slice.slicePlaces ((n : Int) - 1) (-1) (-1) = n := by
  refine ⟨rfl, ?_⟩
  unfold Builtin.Slice.slicePlaces
  rw [if_neg (by decide)]
  by_cases hn : n = 0
  · subst hn; decide
  · rw [if_pos (by omega)]
    have e : ((n : Int) - 1 - -1 - 1) / (- -1) = (n : Int) - 1 := by
      rw [show (- -1 : Int) = 1 from rfl, Int.ediv_one]; omega
    rw [e]; omega
theorem fm_congr {α β : Type} {f g : α → Option β} : ∀ l : List α, (∀ x ∈ l, f x = g x) → l.filterMap f = l.filterMap g
  | [], _ => rfl
  | x :: l, h => by rw [List.filterMap_cons, List.filterMap_cons, h x List.mem_cons_self, fm_congr l fun y hy => h y (List.mem_cons_of_mem _ hy)]
theorem backPick (xs : Array Value) : ((List.range xs.size).filterMap fun (m : Nat) => xs[(((xs.size : Nat) : Int) - 1 + (m : Int) * -1).toNat]?) = xs.toList.reverse := by
  refine List.ext_getElem? fun k => ?_
  have e : ((List.range xs.size).filterMap fun (m : Nat) => xs[(((xs.size : Nat) : Int) - 1 + (m : Int) * -1).toNat]?) = (List.range xs.size).map fun m => xs.toList.reverse.getD m .none := by
    rw [← List.filterMap_eq_map]
    refine fm_congr _ fun m hm => ?_
    have hl : m < xs.size := List.mem_range.mp hm
    have e1 : (((xs.size : Nat) : Int) - 1 + (m : Int) * -1).toNat = xs.size - 1 - m := by omega
    rw [e1]
    have hr : m < xs.toList.reverse.length := by rw [List.length_reverse, Array.length_toList]; exact hl
    have h2 : xs.size - 1 - m < xs.size := by omega
    rw [Array.getElem?_eq_getElem h2]
    show some _ = some (xs.toList.reverse.getD m .none)
    rw [List.getD_eq_getElem?_getD, List.getElem?_eq_getElem hr, List.getElem_reverse]
    simp
  rw [e, List.getElem?_map]
  by_cases hk : k < xs.size
  · rw [List.getElem?_range hk]
    have hr : k < xs.toList.reverse.length := by rw [List.length_reverse, Array.length_toList]; exact hk
    rw [List.getElem?_eq_getElem hr]
    show some (xs.toList.reverse.getD k .none) = _
    rw [List.getD_eq_getElem?_getD, List.getElem?_eq_getElem hr] <;> rfl
  · rw [List.getElem?_eq_none (by rw [List.length_range]; omega), List.getElem?_eq_none (by rw [List.length_reverse, Array.length_toList]; omega)] <;> rfl
theorem backSlice {t sl : Addr} {items : Array Value} {vl vu vs : Value} {Q : Value → Shared → Prop} (ht : IsTup s.heap t items) (hs : s.heap.IsSliceOf sl vl vu vs) (pl : IsPart vl none) (pu : IsPart vu none) (ps : IsPart vs (some (-1)))
    (h : Q (.ref s.heap.objs.size) { s with heap := s.heap.push { cls := .type "tuple", data := .seq items.toList.reverse.toArray } }) (hsz : items.size ≤ sizeLine) : wpAny (model prog w) A (getItem (.ref t) (.ref sl)) Q E s := by
  have fits : sizeOk (.seq items.toList.reverse.toArray) := by
    show items.toList.reverse.toArray.size ≤ sizeLine
    rw [List.size_toArray, List.length_reverse, Array.length_toList]; exact hsz
  obtain ⟨os, hos, hcs, hds⟩ := id hs
  have tS : s.TypeIs (.ref sl) "slice" := ⟨os, hos, hcs⟩
  unfold getItem
  try with_reducible refine wpAny_holding ?_
  first | refine wpAny_bind (wpAny_pure ?_) | skip
  refine wpAny_bind (wpAny_sequenceKey ht.typeIs (by decide) ?_)
  refine wpAny_bind (wpAny_callSpecial?_slot (name := Str.ofString "__getitem__") ht.typeIs PyProof.Rows.slot_tuple_getitem (wpAny_call_entry PyProof.Rows.slot_tuple_getitem ht.typeIs entry_tuple_getitem ?_ (args_tuple_getitem _ _)))
  show wpAny _ _ (Builtin.Tuple.tupleItemsOf (.ref t) >>= _) _ _ s
  refine wpAny_bind (tupleItemsOf_ ht (wpAny_bind (wpAny_typeOf tS ?_)))
  rw [if_pos (by decide)]
  have app : ∀ {Q' : Int × Int × Nat → Shared → Prop} {E' : Value → Shared → Prop} {A' : Around}, Q' ((items.size : Int) - 1, -1, items.size) s → wpAny (model prog w) A' (Builtin.Slice.sliceApplied (.ref sl) (pure (items.size : Int))) Q' E' s := fun {Q' E' A'} hq => by
    unfold Builtin.Slice.sliceApplied Builtin.Slice.sliceFields
    refine wpAny_bind (wpAny_bind (wpAny_field hos hds (x := vl) rfl (wpAny_bind (wpAny_field hos hds (x := vu) rfl (wpAny_bind (wpAny_field hos hds (x := vs) rfl (wpAny_pure ?_)))))))
    refine wpAny_bind (HT.slicePart_ ps ?_)
    show wpAny _ _ (if ((-1 : Int) == 0) = true then _ else _) _ _ s
    rw [if_neg (by decide)]
    refine wpAny_bind (HT.slicePart_ pl (wpAny_bind (HT.slicePart_ pu (wpAny_bind (wpAny_pure ?_)))))
    show wpAny _ _ (match Builtin.Slice.sliceAdjust none none (-1) (items.size : Int) with | (lo, hi) => pure (lo, (-1 : Int), Builtin.Slice.slicePlaces lo hi (-1))) _ _ s
    rw [(backPlaces items.size).1]
    show wpAny _ _ (pure ((items.size : Int) - 1, (-1 : Int), Builtin.Slice.slicePlaces ((items.size : Int) - 1) (-1) (-1))) _ _ s
    rw [(backPlaces items.size).2]
    exact wpAny_pure hq
  refine wpAny_bind (app ?_)
  have no : ¬ ((((items.size : Int) - 1) == 0 && (-1 : Int) == 1 && items.size == items.size) = true) := by
    intro q
    rw [Bool.and_eq_true, Bool.and_eq_true] at q
    exact absurd q.1.2 (by decide)
  show wpAny _ _ (if (((items.size : Int) - 1) == 0 && (-1 : Int) == 1 && items.size == items.size) = true then _ else _) _ _ s
  rw [if_neg no]
  rw [backPick]
  first
    | exact wpAny_bind (m := Builtin.Tuple.tupleExact _) (wpAny_newObj_type (wpAny_pure ⟨_, rfl, wpAny_pure h⟩) fits)
    | exact wpAny_bind (m := Builtin.Tuple.tupleExact _) (wpAny_newObj_type (wpAny_bind (wpAny_pure (wpAny_pure ⟨_, rfl, wpAny_pure h⟩))) fits)
    | exact wpAny_bind (wpAny_bind (m := Builtin.Tuple.tupleExact _) (wpAny_newObj_type (wpAny_pure (wpAny_pure ⟨_, rfl, wpAny_pure h⟩)) fits))
    | exact wpAny_bind (wpAny_bind (m := Builtin.Tuple.tupleExact _) (wpAny_newObj_type (wpAny_pure ⟨_, rfl, wpAny_pure h⟩) fits))
end
noncomputable def tBackT (K : Frag) (te : TE) : TE := fun σ H Q => te σ H fun x H1 => ∃ a xs, x = .ref a ∧ SqT K H1 a xs ∧ NwT H1 Q xs.reverse
section
variable {X : Cx} {W : WX} {e : Expr} {m : ME} {te : TE} {k : Nat} {p1 p2 p3 pos : Pos}
theorem pe_backT (he : PE X e te) : PE X (.Subscript e (.Slice none none (some (.UnaryOp .USub (.Constant (.int 1) k p1) p2)) p3) pos) (tBackT X.K te) := by
  refine ⟨fun pins s σ H Q I hw => ?_⟩
  refine Subscript_ (thn (he.run pins s σ H _ I hw) fun v s1 hh => ?_)
  obtain ⟨x, H1, I1, r1, a, xs, ex, hx, q⟩ := hh
  subst ex
  cases r1
  have stp : PO X (some (.UnaryOp .USub (.Constant (.int 1) k p1) p2)) (tPart (tUn (rU fun i => .int (-i)) (tC (.int 1)))) := po_some (pe_un un_neg pe_int)
  refine wpAny_Slice (thn (po_none.run pins s1 σ H1 (fun o H2 => o = none ∧ H2 = H1) I1 ⟨rfl, rfl⟩) fun vl s2 hh => ?_)
  obtain ⟨l, H2, I2, pl, el, e2⟩ := hh
  subst el e2
  refine thn (po_none.run pins s2 σ H2 (fun o H3 => o = none ∧ H3 = H2) I2 ⟨rfl, rfl⟩) fun vu s3 hh => ?_
  obtain ⟨u, H3, I3, pu, eu, e3⟩ := hh
  subst eu e3
  refine thn (stp.run pins s3 σ H3 (fun o H4 => o = some (-1) ∧ H4 = H3) I3 ⟨1, rfl, -1, rfl, rfl, rfl⟩) fun vs s4 hh => ?_
  obtain ⟨o, H4, I4, ps, eo, e4⟩ := hh
  subst eo e4
  have I5 : Inv X pins σ H4 { s4 with heap := s4.heap.push { cls := .type "slice", data := .fields #[vl, vu, vs] } } := I4.kept (t' := s4.toks) fun b ob q => Heap.get?_push_of_some _ q
  obtain ⟨its, r, ht, hz⟩ := I5.tuple hx
  have hlen := r.length
  show wpAny (model X.prog X.w) X.A (subscriptTail e (.Slice none none (some (.UnaryOp .USub (.Constant (.int 1) k p1) p2)) p3) (.ref a) (.ref s4.heap.objs.size)) (EP X pins σ Q) X.xe { s4 with heap := s4.heap.push { cls := .type "slice", data := .fields #[vl, vu, vs] } }
  refine tail_any (ops := [.ref a, .ref s4.heap.objs.size]) ht.typeIs (PyProof.Rows.slot_tuple_getitem.lookup) ?_ (by with_unfolding_all rfl)
  refine backSlice ht (Heap.IsSliceOf.new _ vl vu vs) pl pu ps ?_ (by rw [List.size_toArray]; omega)
  exact tup_here I5 (by rw [List.length_reverse]; exact hz) r.reverse q
noncomputable def mBack (m : ME) : ME := fun ρ S => (m ρ S).bind fun x S1 => match x with
  | .tup ds => .ok (.tup ds.reverse) S1
  | _ => .bad
end
end Dm
namespace Dm
open PySem L2 PySem.Spec PyProof.Rows
open PySem.W (Frag)
theorem d_fold {X : Cx} {W : WX} {e : Expr} {m : ME} {d : D} (h : DE X W e m) (hm : ∀ ρ S, m ρ S = .ok d S) : DE X W e (mK d) := by
  have q : m = mK d := funext fun ρ => funext fun S => hm ρ S
  rw [← q]; exact h
noncomputable def LawTrue (m : List D → Sto → Res D) : Prop := ∀ ns : List Int, ns.length ≤ 63 → ∃ S', m [.lst (ns.map .int)] [] = .ok (.bl true) S'
noncomputable def spLaw (K : Frag) : Sp := fun vs H Q _ => ∃ (a : Addr) (ns : List Int), vs = [.ref a] ∧ SqL K H a (ns.map V.int) ∧ ns.length ≤ 63 ∧ ∀ H', Q (.bl true) H'
section
variable {P : Program} {w : World} {K : Frag} {mg : Str → Option Value} {base : Heap}
theorem rds_ints {F : Fx} {μ : List Addr} {H : Hp} : ∀ ns : List Int, RDs F μ H (ns.map V.int) (ns.map D.int)
  | [] => .nil
  | n :: ns => .cons (.int n) (rds_ints ns)
theorem cx_no {P : Program} {w : World} {H : Hp} {s s' : Shared} {e : Value} (z : L2.CX P w [] H s (fun _ _ _ => False) e s') : False := by
  obtain ⟨_, _, _, _, _, _, _, _, _, _, _, _, z⟩ := z
  exact z
end
end Dm
namespace Dm
open PySem L2
open PySem.W (Frag)
section
variable {X : Cx} {W : WX} {tg e a b c : Expr} {es : List Expr} {ma mb mc m : ME} {pos p p1 p2 p3 : Pos}
noncomputable def mRepL (a : MA) (b : ME) : MA := fun ρ S => (a ρ S).bind fun xs S1 => (b ρ S1).bind fun y S2 => match y with
  | .int k => if k < 1000000 ∧ xs.length * k.toNat ≤ 16777216 ∧ -1000000 < k then .ok (List.replicate k.toNat xs).flatten S2 else .bad
  | _ => .bad
abbrev RdL (X : Cx) (W : WX) (te : TE) (mr : MA) : Prop := ∀ ξ μ σ H ρ S Q, RG (fx X ξ) μ H σ ρ → RS (fx X ξ) μ H S → WL' (fx X ξ) (mr ρ S) Q (fun cls dd H' => W cls dd σ H') μ H → te σ H Q
abbrev RdE (X : Cx) (W : WX) (te : TE) (m : ME) : Prop := ∀ ξ μ σ H ρ S Q, RG (fx X ξ) μ H σ ρ → RS (fx X ξ) μ H S → WE' (fx X ξ) (m ρ S) Q (fun cls dd H' => W cls dd σ H') μ H → te σ H Q
theorem rd_fz {te : TE} {mr : MA} (k : RdL X W te mr) : RdE X W te (mFz mr) := by
  intro ξ μ σ H ρ S Q g s h
  refine k ξ μ σ H ρ S Q g s ?_
  unfold mFz at h
  cases e : mr ρ S with
  | bad => rw [e] at h; exact h.elim
  | exc c fs S' => rw [e] at h; exact h
  | ok ds S' =>
    rw [e] at h
    exact fun q xs μ' H' u' hq s' r' e' => h _ μ' H' u' s'.free (.lst (.inl ⟨.inl e', (s'.xi q List.mem_cons_self).1, s.outX hq⟩) (r'.mv .free))
theorem ds_setLc {mr : MA} (i : Nat) {y : Str} {py spos : Pos} {elt : Expr} {ifs : List Expr} {scope : Scope} {own : List (Str × Nat)} {f : D → Rho → Option Rho} {is : List Nat} {mt me : ME} {mw : MA → ME} (hw : ∀ {te : TE} {mr : MA}, RdL X W te mr → RdE X W te (mw mr)) (hc : X.calm = true) (hN : X.N.Nodup) (hi : DI X W tg e mr) (ok : BlkOk X.N X.env.scope scope own)
    (hg : ∀ (s : Shared) (H : Hp) (C : Addr) (cl : List (Str × Addr)) (fp : List Addr), DG (X.blk s H scope (compEnvC scope cl C X.env) fp) tg f is)
    (ht : ∀ (s : Shared) (H : Hp) (C : Addr) (cl : List (Str × Addr)) (fp : List Addr), DTs (X.blk s H scope (compEnvC scope cl C X.env) fp) W0 ifs mt)
    (he : ∀ (s : Shared) (H : Hp) (C : Addr) (cl : List (Str × Addr)) (fp : List Addr), DE (X.blk s H scope (compEnvC scope cl C X.env) fp) W0 elt me)
    (hv : ∀ i ∈ is, i ∈ own.map (·.2) := by decide) (hy : X.N[i]? = some y := by rfl) (hyl : X.env.scope.names.lookup y = some .local := by rfl)
    (hsw : swapsWith (.ListComp elt [⟨tg, e, ifs, 0⟩] scope pos) (some (.Name y py)) spos.line X.env = pure true := by rfl) (hs : ∀ x, foldedSetIterable e X.env x = pure x := by intro _; rfl) :
    DS X W (.Assign [.Name y py] (.ListComp elt [⟨tg, e, ifs, 0⟩] scope pos) spos) (mAsg i (mw (mLc mr f mt me (own.map (·.2))))) := by
  obtain ⟨wi, pi, ki⟩ := hi
  obtain ⟨tg', pg, kg⟩ := dg_all (Xf := blkOf X scope) (K := X.K) (mg := X.mg) (fun _ => rfl) (fun _ => rfl) fun i => hg i.1 i.2.1 i.2.2.1 i.2.2.2.1 i.2.2.2.2
  obtain ⟨tt, pt, kt⟩ := dts_all (Xf := blkOf X scope) (K := X.K) (mg := X.mg) (fun _ => rfl) (fun _ => rfl) fun i => ht i.1 i.2.1 i.2.2.1 i.2.2.2.1 i.2.2.2.2
  obtain ⟨te, pe, ke⟩ := de_all (Xf := blkOf X scope) (K := X.K) (mg := X.mg) (fun _ => rfl) (fun _ => rfl) fun i => he i.1 i.2.1 i.2.2.1 i.2.2.2.1 i.2.2.2.2
  have rd : RdL X W (tLc wi tg' tt te (own.map (·.2))) (mLc mr f mt me (own.map (·.2))) := fun ξ μ σ H ρ S Q g s h => lc_read (fun R => ki ξ μ σ H ρ S R g s) kg kt ke hv g s h
  refine ⟨_, ps_setLc (i := i) hc hN hy hyl hsw pi ok (fun s H C cl fp => pg (s, H, C, cl, fp)) (fun s H C cl fp => pt (s, H, C, cl, fp)) (fun s H C cl fp => pe (s, H, C, cl, fp)) hs, fun ξ μ σ H ρ S D g s h => ?_⟩
  exact hw rd ξ μ σ H ρ S _ g s (WS'.bind g h fun x S1 v μ1 H1 u1 s1 r1 h1 => h1 _ μ1 H1 .refl s1 ((g.up u1).set i r1))
noncomputable def mCatC (a : ME) (b : MA) : MA := fun ρ S => (a ρ S).bind fun x S1 => (b ρ S1).bind fun ys S2 => match x with
  | .cell n => match S2[n]? with
    | some (.lst xs) => if xs.length + ys.length ≤ 16777216 then .ok (xs ++ ys) S2 else .bad
    | _ => .bad
  | _ => .bad
end
end Dm
namespace Dm
open PySem L2 PySem.Spec PyProof.Rows
open PySem.W (Frag)
section
variable {X : Cx} {W : WX} {tg e a b c : Expr} {es : List Expr} {ma mb mc m : ME} {pos p p1 p2 p3 : Pos}
noncomputable def rCatB (K : Frag) : R2 := fun x y H Q => ∃ l b xs zs, x = .ref l ∧ y = .ref b ∧ SqL K H l xs ∧ SqL K H b zs ∧ xs.length + zs.length ≤ sizeLine ∧ ∀ p, H p = none → Q (.ref p) (upd H p (.lst (xs ++ zs)))
theorem op_catB : OpR X (binaryOp .Add) (rCatB X.K) := by
  intro pins s σ H x y v u Q I rx ry h
  obtain ⟨l, b, xs, zs, rfl, rfl, hl, hb, hz, q⟩ := h
  cases rx
  cases ry
  obtain ⟨its, r, ⟨o, n, ho, hc, hd, hs⟩, z⟩ := I.list hl
  obtain ⟨its2, r2, ⟨o2, n2, ho2, hc2, hd2, hs2⟩, z2⟩ := I.list hb
  obtain ⟨cls, dd, data, sl⟩ := o
  obtain ⟨cls2, dd2, data2, sl2⟩ := o2
  simp only at hc hd hs hc2 hd2 hs2
  subst hc hd hs hc2 hd2 hs2
  have ea : its.toArray ++ its2.toArray = (its ++ its2).toArray := by simp
  refine concat_meets ⟨_, ho, rfl⟩ ⟨_, ho2, rfl⟩ noFill_list_add seq_list_add PySem.F.slot_list_add PySem.F.entry_list_add (PySem.F.args_list_add_2 _ _) (list_addW l b its.toArray its2.toArray n n2 none none sl sl2 (by rw [List.size_toArray, List.size_toArray, ← r.length, ← r2.length]; exact hz)) ⟨ho, ho2, ?_⟩
  rw [ea]
  exact ⟨.ref _, _, I.lnew (t' := s.toks) (r.append r2) (by rw [List.length_append]; exact hz), rfl, q _ I.fresh⟩
noncomputable def mCatV (a : ME) (b : MA) : MA := fun ρ S => (a ρ S).bind fun x S1 => (b ρ S1).bind fun ys S2 => match lstOf S2 x with
  | some xs => if xs.length + ys.length ≤ 16777216 then .ok (xs ++ ys) S2 else .bad
  | none => .bad
theorem dl_catV {nb : MA} (ha : DE X W a ma) (hb : DL X W b nb) : DL X W (.BinOp a .Add b pos) (mCatV ma nb) := by
  obtain ⟨ta, pa, ka⟩ := ha
  obtain ⟨tb, pb, kb⟩ := hb
  refine ⟨_, pe_op op_catB pa pb, fun ξ μ σ H ρ S Q g s h => ka ξ μ σ H ρ S _ g s (WL'.bind h fun x S1 v μ1 H1 u1 s1 r1 h1 => ?_)⟩
  refine kb ξ μ1 σ H1 ρ S1 _ (g.up u1) s1 (WL'.bindL h1 fun es S2 q ys μ2 H2 u2 hq s2 r2 e2 h2 => ?_)
  cases c : lstOf S2 x with
  | none => simp only [c] at h2; exact h2.elim
  | some ds =>
    simp only [c] at h2
    have ss : RS (fx X ξ) μ2 H2 S2 := RS.free (F := fx X ξ) (p := q) s2
    obtain ⟨l, xs, rfl, h4, r3⟩ := RD.lstS ss (r1.up u2) c
    by_cases l : ds.length + es.length ≤ 16777216
    · rw [if_pos l] at h2
      refine ⟨_, q, xs, ys, rfl, rfl, h4, SqL.of e2, by rw [r3.length, r2.length, sizeLine_eq]; exact l, fun r hr => ?_⟩
      have rr : RDs (fx X ξ) μ2 H2 (xs ++ ys) (ds ++ es) := RDs.append r3 (RDs.free (F := fx X ξ) (p := q) _ r2)
      exact h2 r _ μ2 _ (.fresh hr) hr (ss.holds hr) (rr.mv (.holds hr)) upd_same
    · rw [if_neg l] at h2
      exact h2.elim
noncomputable def gIsB (neg : Bool) : Sto → D → D → Option D := fun _ x y => match x, y with
  | .bl a, .bl b => some (.bl (if neg then !decide (a = b) else decide (a = b)))
  | _, _ => none
theorem o_notB : OpD X rNotB (gIsB true) := by
  intro ξ μ H S x y v u z Q s rx ry e k
  cases rx with
  | bl a =>
    cases ry with
    | bl b => cases e; exact ⟨a, b, rfl, rfl, k _ μ H .refl s (.bl _)⟩
    | _ => exact nomatch e
  | _ => cases ry <;> exact nomatch e
end
end Dm
namespace Dm
open PySem L2 PySem.Spec PyProof.Rows
open PySem.W (Frag)
noncomputable def insP (x : Int × Int) : List (Int × Int) → List (Int × Int)
  | [] => [x]
  | y :: r => if SrtO.lexB y x then y :: insP x r else x :: y :: r
noncomputable def srtP : List (Int × Int) → List (Int × Int)
  | [] => []
  | x :: r => insP x (srtP r)
noncomputable def insN (x : Int) : List Int → List Int
  | [] => [x]
  | y :: r => if y < x then y :: insN x r else x :: y :: r
noncomputable def srtN : List Int → List Int
  | [] => []
  | x :: r => insN x (srtN r)
theorem IsPair.inj {h : Heap} {v : Value} {x y x' y' : Int} (a : Srt.IsPair h v x y) (b : Srt.IsPair h v x' y') : x = x' ∧ y = y' := by
  obtain ⟨a1, o, t, u, n, rfl, e1, e2, e3⟩ := a
  obtain ⟨a2, o', t', u', n', e0, f1, f2, f3⟩ := b
  cases e0
  rw [e1] at f1; cases f1
  rw [e3] at f3
  cases f3
  exact ⟨rfl, rfl⟩
section
variable {X : Cx}
noncomputable def intsOf : List D → Option (List Int)
  | [] => some []
  | .int i :: ds => (intsOf ds).map (i :: ·)
  | _ :: _ => none
noncomputable def pairsOf : List D → Option (List (Int × Int))
  | [] => some []
  | .tup [.int i, .int j] :: ds => (pairsOf ds).map ((i, j) :: ·)
  | _ :: _ => none
noncomputable def prD (p : Int × Int) : D := .tup [.int p.1, .int p.2]
@[simp] theorem intsOf_map {ns : List Int} : intsOf (ns.map .int) = some ns := by
  induction ns with
  | nil => rfl
  | cons n ns ih => rw [List.map_cons]; show (intsOf _).map _ = _; rw [ih] <;> rfl
@[simp] theorem pairsOf_map {ps : List (Int × Int)} : pairsOf (ps.map prD) = some ps := by
  induction ps with
  | nil => rfl
  | cons n ns ih => rw [List.map_cons]; show (pairsOf _).map _ = _; rw [ih] <;> rfl
noncomputable def sortD (ds : List D) : Option (List D) := match intsOf ds with
  | some ns => some ((srtN ns).map .int)
  | none => (pairsOf ds).map fun ps => (srtP ps).map prD
noncomputable def gSort : Sto → List D → Option (List D) := fun S ds => match ds with
  | [d] => (lstOf S d).bind sortD
  | _ => none
theorem CallR.or {f : Value} {r r' : List V → Hp → VK → Prop} (h : CallR X f r) (h' : CallR X f r') : CallR X f (fun vs H Q => r vs H Q ∨ r' vs H Q) := by
  intro pins s σ H vs us Q I rv z
  rcases z with z | z
  · exact h pins s σ H vs us Q I rv z
  · exact h' pins s σ H vs us Q I rv z
end
@[simp] theorem gSort_ints {S : Sto} {d : D} {ns : List Int} (h : lstOf S d = some (ns.map .int)) : gSort S [d] = some ((srtN ns).map .int) := by
  show (lstOf S d).bind sortD = _
  rw [h]
  show sortD _ = _
  unfold sortD
  rw [intsOf_map]
end Dm
namespace Dm
open PySem L2
abbrev EX := Str → List (Str × D) → Sto → Prop
abbrev EXO := Str → List (Str × D) → Rho → Sto → Prop
noncomputable def NoE : EX := fun _ _ _ => False
noncomputable def NoEO : EXO := fun _ _ _ _ => False
noncomputable def eAt (E : EXO) (ρ : Rho) : EX := fun c fs S => E c fs ρ S
noncomputable def eOut (E : EX) : EXO := fun c fs _ S => E c fs S
@[simp] theorem eAt_out {E : EX} {ρ : Rho} : eAt (eOut E) ρ = E := rfl
@[simp] theorem eAt_no {ρ : Rho} : eAt NoEO ρ = NoE := rfl
@[simp] theorem eOut_no : eOut NoE = NoEO := rfl
@[simp] theorem noE_app {c : Str} {fs : List (Str × D)} {S : Sto} : NoE c fs S = False := rfl
@[simp] theorem noEO_app {c : Str} {fs : List (Str × D)} {ρ : Rho} {S : Sto} : NoEO c fs ρ S = False := rfl
noncomputable def Res.DoesE {α : Type} (r : Res α) (E : EX) (Q : α → Sto → Prop) : Prop := match r with
  | .ok a S => Q a S
  | .exc c fs S => E c fs S
  | .bad => False
noncomputable def Out.DoesE (o : Out) (E : EXO) (N : Rho → Sto → Prop) (R : D → Sto → Prop) (B : Rho → Sto → Prop := fun _ _ => False) (C : Rho → Sto → Prop := fun _ _ => False) : Prop := match o with
  | .nx ρ S => N ρ S
  | .rt d S => R d S
  | .bk ρ S => B ρ S
  | .ct ρ S => C ρ S
  | .exc c fs ρ S => E c fs ρ S
  | .bad => False
abbrev Res.Does {α : Type} (r : Res α) (Q : α → Sto → Prop) : Prop := r.DoesE NoE Q
abbrev Out.Does (o : Out) (N : Rho → Sto → Prop) (R : D → Sto → Prop) (B : Rho → Sto → Prop := fun _ _ => False) (C : Rho → Sto → Prop := fun _ _ => False) : Prop := o.DoesE NoEO N R B C
section
variable {α β : Type} {a : α} {S : Sto} {ρ : Rho} {Q : α → Sto → Prop} {N B C : Rho → Sto → Prop} {R : D → Sto → Prop} {E : EX} {EO : EXO}
@[simp] theorem does_ok : (Res.ok a S).DoesE E Q = Q a S := rfl
@[simp] theorem does_bind {r : Res β} {f : β → Sto → Res α} : (r.bind f).DoesE E Q = r.DoesE E fun b S => (f b S).DoesE E Q := by cases r <;> rfl
@[simp] theorem bind_ok {f : α → Sto → Res β} : (Res.ok a S).bind f = f a S := rfl
@[simp] theorem ofRes_ok {k : α → Sto → Out} : ofRes (.ok a S) ρ k = k a S := rfl
@[simp] theorem does_ofRes {r : Res α} {k : α → Sto → Out} : (ofRes r ρ k).DoesE EO N R B C = r.DoesE (eAt EO ρ) fun a S => (k a S).DoesE EO N R B C := by cases r <;> rfl
@[simp] theorem does_nx : (Out.nx ρ S).DoesE EO N R B C = N ρ S := rfl
@[simp] theorem does_rt {d : D} : (Out.rt d S).DoesE EO N R B C = R d S := rfl
@[simp] theorem does_bk : (Out.bk ρ S).DoesE EO N R B C = B ρ S := rfl
@[simp] theorem does_ct : (Out.ct ρ S).DoesE EO N R B C = C ρ S := rfl
theorem Res.DoesE.mono {r : Res α} {Q Q' : α → Sto → Prop} (h : r.DoesE E Q) (k : ∀ a S, Q a S → Q' a S) : r.DoesE E Q' := by
  cases r with
  | ok a S => exact k a S h
  | _ => exact h
theorem Res.DoesE.monoE {r : Res α} {E' : EX} {Q Q' : α → Sto → Prop} (h : r.DoesE E Q) (e : ∀ c fs S, E c fs S → E' c fs S) (k : ∀ a S, Q a S → Q' a S) : r.DoesE E' Q' := by
  cases r with
  | ok a S => exact k a S h
  | exc c fs S => exact e _ _ _ h
  | bad => exact h
theorem Res.DoesE.toE {r : Res α} {Q : α → Sto → Prop} (h : r.DoesE NoE Q) : r.DoesE E Q := h.monoE (fun _ _ _ z => z.elim) fun _ _ z => z
theorem Res.Does.toE {r : Res α} {Q : α → Sto → Prop} (h : r.Does Q) : r.DoesE E Q := Res.DoesE.toE h
theorem Res.Does.mono {r : Res α} {Q Q' : α → Sto → Prop} (h : r.Does Q) (k : ∀ a S, Q a S → Q' a S) : r.Does Q' := Res.DoesE.mono h k
theorem Res.DoesE.eq {r : Res α} {Q : α → Sto → Prop} (h : r.DoesE NoE Q) : ∃ a S, r = .ok a S ∧ Q a S := by
  cases r with
  | ok a S => exact ⟨a, S, rfl, h⟩
  | _ => exact h.elim
theorem Res.Does.eq {r : Res α} {Q : α → Sto → Prop} (h : r.Does Q) : ∃ a S, r = .ok a S ∧ Q a S := Res.DoesE.eq h
theorem Out.DoesE.mono {o : Out} {N' B' C' : Rho → Sto → Prop} {R' : D → Sto → Prop} (h : o.DoesE EO N R B C) (hN : ∀ ρ S, N ρ S → N' ρ S) (hR : ∀ d S, R d S → R' d S) (hB : ∀ ρ S, B ρ S → B' ρ S) (hC : ∀ ρ S, C ρ S → C' ρ S) : o.DoesE EO N' R' B' C' := by
  cases o with
  | nx ρ S => exact hN _ _ h
  | rt d S => exact hR _ _ h
  | bk ρ S => exact hB _ _ h
  | ct ρ S => exact hC _ _ h
  | _ => exact h
theorem Out.Does.mono {o : Out} {N' B' C' : Rho → Sto → Prop} {R' : D → Sto → Prop} (h : o.Does N R B C) (hN : ∀ ρ S, N ρ S → N' ρ S) (hR : ∀ d S, R d S → R' d S) (hB : ∀ ρ S, B ρ S → B' ρ S) (hC : ∀ ρ S, C ρ S → C' ρ S) : o.Does N' R' B' C' := Out.DoesE.mono h hN hR hB hC
end
section
variable {S : Sto} {ρ : Rho} {Q : D → Sto → Prop} {N B C : Rho → Sto → Prop} {R : D → Sto → Prop} {E : EX} {EO : EXO}
@[simp] theorem does_seq {a b : MS} : (mSeq a b ρ S).DoesE EO N R B C = (a ρ S).DoesE EO (fun ρ S => (b ρ S).DoesE EO N R B C) R B C := by
  unfold mSeq
  cases a ρ S <;> rfl
@[simp] theorem does_asg {i : Nat} {m : ME} : (mAsg i m ρ S).DoesE EO N R B C = (m ρ S).DoesE (eAt EO ρ) fun d S => N (ρ.set i (some d)) S := by
  unfold mAsg
  rw [does_ofRes] <;> rfl
@[simp] theorem does_ret {m : ME} : (mRet m ρ S).DoesE EO N R B C = (m ρ S).DoesE (eAt EO ρ) R := by
  unfold mRet
  rw [does_ofRes] <;> rfl
@[simp] theorem does_retN : (mRetN ρ S).DoesE EO N R B C = R .non S := rfl
@[simp] theorem does_drop {m : ME} : (mDrop m ρ S).DoesE EO N R B C = (m ρ S).DoesE (eAt EO ρ) fun _ S => N ρ S := by
  unfold mDrop
  rw [does_ofRes] <;> rfl
@[simp] theorem does_nop : (mNop ρ S).DoesE EO N R B C = N ρ S := rfl
@[simp] theorem does_brk : (mBrk ρ S).DoesE EO N R B C = B ρ S := rfl
@[simp] theorem does_cont : (mCont ρ S).DoesE EO N R B C = C ρ S := rfl
noncomputable def BlQ (k : Bool → Sto → Prop) : D → Sto → Prop := fun d S => match d with
  | .bl b => k b S
  | _ => False
@[simp] theorem blQ_bl {k : Bool → Sto → Prop} {b : Bool} : BlQ k (.bl b) S = k b S := rfl
@[simp] theorem does_ifS {c : ME} {a b : MS} : (mIfS c a b ρ S).DoesE EO N R B C = (c ρ S).DoesE (eAt EO ρ) (BlQ fun k S => if k = true then (a ρ S).DoesE EO N R B C else (b ρ S).DoesE EO N R B C) := by
  unfold mIfS
  rw [does_ofRes]
  congr 1
  funext d S
  cases d with
  | bl k => cases k <;> rfl
  | _ => rfl
@[simp] theorem does_var {i : Nat} : (mVar i ρ S).DoesE E Q = match ρ[i]? with
    | some (some d) => Q d S
    | _ => False := by
  unfold mVar
  cases ρ[i]? with
  | none => rfl
  | some o => cases o <;> rfl
@[simp] theorem does_k {d : D} : (mK d ρ S).DoesE E Q = Q d S := rfl
@[simp] theorem var_eq {i : Nat} : mVar i ρ S = match ρ[i]? with
    | some (some d) => .ok d S
    | _ => .bad := rfl
@[simp] theorem k_eq {d : D} : mK d ρ S = .ok d S := rfl
noncomputable def OptQ (o : Option D) (k : D → Prop) : Prop := match o with
  | some d => k d
  | none => False
@[simp] theorem optQ_some {d : D} {k : D → Prop} : OptQ (some d) k = k d := rfl
@[simp] theorem does_op {g : Sto → D → D → Option D} {a b : ME} : (mOp g a b ρ S).DoesE E Q = (a ρ S).DoesE E fun x S1 => (b ρ S1).DoesE E fun y S2 => OptQ (g S2 x y) fun z => Q z S2 := by
  unfold mOp
  rw [does_bind]
  congr 1
  funext x S1
  rw [does_bind]
  congr 1
  funext y S2
  cases g S2 x y <;> rfl
@[simp] theorem does_un {g : Sto → D → Option D} {a : ME} : (mUn g a ρ S).DoesE E Q = (a ρ S).DoesE E fun x S1 => OptQ (g S1 x) fun z => Q z S1 := by
  unfold mUn
  rw [does_bind]
  congr 1
  funext x S1
  cases g S1 x <;> rfl
@[simp] theorem does_and {a b : ME} : (mAnd a b ρ S).DoesE E Q = (a ρ S).DoesE E (BlQ fun k S1 => if k = true then (b ρ S1).DoesE E Q else Q (.bl false) S1) := by
  unfold mAnd
  rw [does_bind]
  congr 1
  funext d S
  cases d with
  | bl k => cases k <;> rfl
  | _ => rfl
@[simp] theorem does_or {a b : ME} : (mOr a b ρ S).DoesE E Q = (a ρ S).DoesE E (BlQ fun k S1 => if k = true then Q (.bl true) S1 else (b ρ S1).DoesE E Q) := by
  unfold mOr
  rw [does_bind]
  congr 1
  funext d S
  cases d with
  | bl k => cases k <;> rfl
  | _ => rfl
@[simp] theorem does_not {a : ME} : (mNot a ρ S).DoesE E Q = (a ρ S).DoesE E (BlQ fun k S1 => Q (.bl (!k)) S1) := by
  unfold mNot
  rw [does_bind]
  congr 1
  funext d S
  cases d <;> rfl
@[simp] theorem does_if {c a b : ME} : (mIf c a b ρ S).DoesE E Q = (c ρ S).DoesE E (BlQ fun k S1 => if k = true then (a ρ S1).DoesE E Q else (b ρ S1).DoesE E Q) := by
  unfold mIf
  rw [does_bind]
  congr 1
  funext d S
  cases d with
  | bl k => cases k <;> rfl
  | _ => rfl
@[simp] theorem does_nil {Q : List D → Sto → Prop} : (mNil ρ S).DoesE E Q = Q [] S := rfl
@[simp] theorem does_cons {a : ME} {r : MA} {Q : List D → Sto → Prop} : (mCons a r ρ S).DoesE E Q = (a ρ S).DoesE E fun x S1 => (r ρ S1).DoesE E fun xs S2 => Q (x :: xs) S2 := by
  unfold mCons
  rw [does_bind]
  congr 1
  funext x S1
  rw [does_bind] <;> rfl
@[simp] theorem does_tup {a : MA} : (mTup a ρ S).DoesE E Q = (a ρ S).DoesE E fun xs S1 => xs.length ≤ 16777216 ∧ Q (.tup xs) S1 := by
  unfold mTup
  rw [does_bind]
  congr 1
  funext xs S1
  by_cases h : xs.length ≤ 16777216
  · rw [if_pos h]; simp [h]
  · rw [if_neg h]; simp [h, Res.DoesE]
@[simp] theorem does_lst {a : MA} {Q : List D → Sto → Prop} : (mLst a ρ S).DoesE E Q = (a ρ S).DoesE E fun xs S1 => xs.length ≤ 16777216 ∧ Q xs S1 := by
  unfold mLst
  rw [does_bind]
  congr 1
  funext xs S1
  by_cases h : xs.length ≤ 16777216
  · rw [if_pos h]; simp [h]
  · rw [if_neg h]; simp [h, Res.DoesE]
@[simp] theorem does_fz {a : MA} : (mFz a ρ S).DoesE E Q = (a ρ S).DoesE E fun xs S1 => Q (.lst xs) S1 := by
  unfold mFz
  rw [does_bind] <;> rfl
@[simp] theorem does_new {a : MA} : (mNew a ρ S).DoesE E Q = (a ρ S).DoesE E fun xs S1 => Q (.cell S1.length) (S1 ++ [.lst xs]) := by
  unfold mNew
  rw [does_bind] <;> rfl
@[simp] theorem does_call {f : List D → Sto → Res D} {a : MA} : (mCall f a ρ S).DoesE E Q = (a ρ S).DoesE E fun xs S1 => (f xs S1).DoesE E Q := by
  unfold mCall
  rw [does_bind] <;> rfl
@[simp] theorem does_callB {g : Sto → List D → Option D} {a : MA} : (mCallB g a ρ S).DoesE E Q = (a ρ S).DoesE E fun xs S1 => OptQ (g S1 xs) fun z => Q z S1 := by
  unfold mCallB
  rw [does_bind]
  congr 1
  funext x S1
  cases g S1 x <;> rfl
@[simp] theorem does_callK {f : List D → Sto → Res D} {n q : Nat} {p : List Nat} {a k : MA} : (mCallK f n q p a k ρ S).DoesE E Q = (a ρ S).DoesE E fun xs S1 => (k ρ S1).DoesE E fun zs S2 => (xs.length = n ∧ zs.length = q) ∧ (f (p.filterMap ((xs ++ zs)[·]?)) S2).DoesE E Q := by
  unfold mCallK
  rw [does_bind]
  congr 1
  funext xs S1
  rw [does_bind]
  congr 1
  funext zs S2
  by_cases h : xs.length = n ∧ zs.length = q
  · rw [if_pos h]; simp [h]
  · rw [if_neg h]; simp [h, Res.DoesE]
@[simp] theorem does_chain {g g' : Sto → D → D → Option D} {a b c : ME} : (mChain g g' a b c ρ S).DoesE E Q = (a ρ S).DoesE E fun x S1 => (b ρ S1).DoesE E fun y S2 => OptQ (g S2 x y) fun z => BlQ (fun k S2 => if k = true then (c ρ S2).DoesE E fun w S3 => OptQ (g' S3 y w) fun z => Q z S3 else Q (.bl false) S2) z S2 := by
  unfold mChain
  rw [does_bind]
  congr 1
  funext x S1
  rw [does_bind]
  congr 1
  funext y S2
  cases g S2 x y with
  | none => rfl
  | some z =>
    cases z with
    | bl k =>
      cases k with
      | false => rfl
      | true =>
        show ((c ρ S2).bind _).DoesE E Q = _
        rw [does_bind]
        show _ = (c ρ S2).DoesE E _
        congr 1
        funext w S3
        cases g' S3 y w <;> rfl
    | _ => rfl
@[simp] theorem does_isi {T : Tn} {m : ME} : (mIsi T m ρ S).DoesE E Q = (m ρ S).DoesE E fun d S1 => OptQ ((tyOf S1 d).map fun t => .bl (isTn t T)) fun z => Q z S1 := by
  unfold mIsi
  rw [does_un]
@[simp] theorem does_isiT {T : List Tn} {m : ME} : (mIsiT T m ρ S).DoesE E Q = (m ρ S).DoesE E fun d S1 => OptQ ((tyOf S1 d).map fun t => .bl (T.any (isTn t ·))) fun z => Q z S1 := by
  unfold mIsiT
  rw [does_un]
@[simp] theorem does_asgG {f : D → Rho → Option Rho} {m : ME} : (mAsgG f m ρ S).DoesE EO N R B C = (m ρ S).DoesE (eAt EO ρ) fun d S1 => match f d ρ with
    | some ρ1 => N ρ1 S1
    | none => False := by
  unfold mAsgG
  rw [does_ofRes]
  congr 1
  funext d S1
  cases f d ρ <;> rfl
theorem does_def {np nN : Nat} {b : MS} {ds : List D} (h : ds.length = np) (hb : (b (ds.map some ++ List.replicate (nN - np) none) S).DoesE (eOut E) (fun _ S' => Q .non S') Q) : (mDef np nN b ds S).DoesE E Q := by
  unfold mDef
  rw [if_pos h]
  cases e : b (ds.map some ++ List.replicate (nN - np) none) S <;> rw [e] at hb <;> exact hb
@[simp] theorem does_for {mi : MA} {f : D → Rho → Option Rho} {mb : MS} : (mFor mi f mb ρ S).DoesE EO N R B C = (mi ρ S).DoesE (eAt EO ρ) fun ds S1 => (forL f mb ds ρ S1).DoesE EO N R B C := by
  unfold mFor
  rw [does_ofRes]
@[simp] theorem does_forL_nil {f : D → Rho → Option Rho} {mb : MS} : (forL f mb [] ρ S).DoesE EO N R B C = N ρ S := rfl
@[simp] theorem does_forL_cons {f : D → Rho → Option Rho} {mb : MS} {d : D} {r : List D} : (forL f mb (d :: r) ρ S).DoesE EO N R B C = match f d ρ with
    | none => False
    | some ρ1 => (mb ρ1 S).DoesE EO (fun ρ S => (forL f mb r ρ S).DoesE EO N R B C) R N (fun ρ S => (forL f mb r ρ S).DoesE EO N R B C) := by
  rw [forL]
  cases f d ρ with
  | none => rfl
  | some ρ1 =>
    simp only
    cases mb ρ1 S <;> rfl
theorem forL_does {f : D → Rho → Option Rho} {mb : MS} (I : List D → Rho → Sto → Prop) (step : ∀ d r ρ S, I (d :: r) ρ S → ∃ ρ1, f d ρ = some ρ1 ∧ (mb ρ1 S).DoesE EO (I r) R N (I r)) (stop : ∀ ρ S, I [] ρ S → N ρ S) :
    ∀ (ds : List D) (ρ : Rho) (S : Sto), I ds ρ S → (forL f mb ds ρ S).DoesE EO N R B C
  | [], ρ, S, h => stop ρ S h
  | d :: r, ρ, S, h => by
    obtain ⟨ρ1, e, k⟩ := step d r ρ S h
    unfold forL
    rw [e]
    simp only
    cases q : mb ρ1 S with
    | nx ρ2 S2 => rw [q] at k; exact forL_does I step stop r ρ2 S2 k
    | ct ρ2 S2 => rw [q] at k; exact forL_does I step stop r ρ2 S2 k
    | bk ρ2 S2 => rw [q] at k; exact k
    | rt d S2 => rw [q] at k; exact k
    | exc c fs ρ2 S2 => rw [q] at k; exact k
    | bad => rw [q] at k; exact k
theorem forL_cut {f : D → Rho → Option Rho} {mb : MS} (I : List D → Rho → Sto → Prop) (ds : List D) (start : I ds ρ S) (step : ∀ d r ρ S, I (d :: r) ρ S → ∃ ρ1, f d ρ = some ρ1 ∧ ∀ M : Rho → Sto → Prop, (∀ ρ S, I r ρ S → M ρ S) → (mb ρ1 S).DoesE EO M R N M) (stop : ∀ ρ S, I [] ρ S → N ρ S) :
    (forL f mb ds ρ S).DoesE EO N R B C :=
  forL_does I (fun d r ρ S h => let ⟨ρ1, e, k⟩ := step d r ρ S h; ⟨ρ1, e, k _ fun _ _ h => h⟩) stop ds ρ S start
@[simp] theorem does_iSeq {m : ME} {Q : List D → Sto → Prop} : (iSeq m ρ S).DoesE E Q = (m ρ S).DoesE E fun d S1 => match d with
    | .tup ds => Q ds S1
    | .lst ds => Q ds S1
    | _ => False := by
  unfold iSeq
  rw [does_bind]
  congr 1
  funext d S1
  cases d <;> rfl
@[simp] theorem does_iEnumS {m : ME} {Q : List D → Sto → Prop} : (iEnumS m ρ S).DoesE E Q = (m ρ S).DoesE E fun d S1 => match d with
    | .tup ds => Q (enumD ds) S1
    | .lst ds => Q (enumD ds) S1
    | _ => False := by
  unfold iEnumS
  rw [does_bind]
  congr 1
  funext d S1
  cases d <;> rfl
@[simp] theorem does_iRange1 {a : MA} {Q : List D → Sto → Prop} : (iRange1 a ρ S).DoesE E Q = (a ρ S).DoesE E fun ds S1 => match ds with
    | [.int j] => (j ≤ 16777216 ∧ -4611686018427387904 ≤ j) ∧ Q (rngD 0 j.toNat) S1
    | _ => False := by
  unfold iRange1
  rw [does_bind]
  congr 1
  funext ds S1
  split
  · rename_i j
    by_cases h : j ≤ 16777216 ∧ -4611686018427387904 ≤ j
    · rw [if_pos h]; simp [h]
    · rw [if_neg h]; simp [h, Res.DoesE]
  · rename_i h
    first
    | rfl
    | (split <;> first
      | rfl
      | (rename_i j; exact absurd rfl (h j)))
@[simp] theorem does_iRange2 {a : MA} {Q : List D → Sto → Prop} : (iRange2 a ρ S).DoesE E Q = (a ρ S).DoesE E fun ds S1 => match ds with
    | [.int i, .int j] => (-1000000000000 ≤ i ∧ i ≤ 1000000000000 ∧ -1000000000000 ≤ j ∧ j ≤ 1000000000000 ∧ j - i ≤ 16777216) ∧ Q (rngD i (j - i).toNat) S1
    | _ => False := by
  unfold iRange2
  rw [does_bind]
  congr 1
  funext ds S1
  split
  · rename_i i j
    by_cases h : -1000000000000 ≤ i ∧ i ≤ 1000000000000 ∧ -1000000000000 ≤ j ∧ j ≤ 1000000000000 ∧ j - i ≤ 16777216
    · rw [if_pos h]; simp [h]
    · rw [if_neg h]; simp [h, Res.DoesE]
  · rename_i h
    first
    | rfl
    | (split <;> first
      | rfl
      | (rename_i i j; exact absurd rfl (h i j)))
noncomputable def LcQ (f : D → Rho → Option Rho) (mt me : ME) (ρ : Rho) (ds : List D) (S : Sto) (Q : List D → Sto → Prop) : Prop := ∃ ys S2, lcL f mt me ρ ds S = some (ys, S2) ∧ Q ys S2
@[simp] theorem lcQ_nil {f : D → Rho → Option Rho} {mt me : ME} {Q : List D → Sto → Prop} : LcQ f mt me ρ [] S Q = Q [] S := by
  refine propext ⟨?_, fun q => ⟨[], S, rfl, q⟩⟩
  rintro ⟨ys, S2, e, q⟩
  cases e
  exact q
@[simp] theorem lcQ_cons {f : D → Rho → Option Rho} {mt me : ME} {d : D} {r : List D} {Q : List D → Sto → Prop} : LcQ f mt me ρ (d :: r) S Q = match f d ρ with
    | none => False
    | some ρ1 => (mt ρ1 S).Does (BlQ fun k S1 => if k = true then (me ρ1 S1).Does fun y S2 => LcQ f mt me ρ r S2 fun ys S3 => Q (y :: ys) S3 else LcQ f mt me ρ r S1 Q) := by
  unfold LcQ
  rw [lcL]
  cases f d ρ with
  | none => simp
  | some ρ1 =>
    simp only
    cases mt ρ1 S with
    | ok v S1 =>
      cases v with
      | bl b =>
        cases b with
        | true =>
          simp only [does_ok, blQ_bl, if_true]
          cases me ρ1 S1 with
          | ok y S2 =>
            simp only [does_ok]
            cases lcL f mt me ρ r S2 with
            | none => simp
            | some z =>
              obtain ⟨ys, S3⟩ := z
              refine propext ⟨?_, ?_⟩
              · rintro ⟨ys', S', e, q⟩
                cases e
                exact ⟨_, _, rfl, q⟩
              · rintro ⟨ys', S', e, q⟩
                cases e
                exact ⟨_, _, rfl, q⟩
          | _ => simp [Res.DoesE]
        | false => simp [does_ok, blQ_bl]
      | _ => simp [does_ok, BlQ]
    | _ => simp [Res.DoesE]
@[simp] theorem does_yes {Q : D → Sto → Prop} : (mYes ρ S).DoesE E Q = Q (.bl true) S := rfl
@[simp] theorem does_lc {mi : MA} {f : D → Rho → Option Rho} {mt me : ME} {vs : List Nat} {Q : List D → Sto → Prop} : (mLc mi f mt me vs ρ S).DoesE E Q = (mi ρ S).DoesE E fun ds S1 => LcQ f mt me (wipeD ρ vs) ds S1 Q := by
  unfold mLc
  rw [does_bind]
  congr 1
  funext ds S1
  unfold LcQ
  cases e : lcL f mt me (wipeD ρ vs) ds S1 with
  | none => simp [Res.DoesE]
  | some r =>
    obtain ⟨ys, S2⟩ := r
    refine propext ⟨fun q => ⟨ys, S2, rfl, q⟩, ?_⟩
    rintro ⟨ys', S2', e', q⟩
    cases e'
    exact q
@[simp] theorem does_slT {a : ME} {lo hi : MO} : (mSlT a lo hi ρ S).DoesE E Q = (a ρ S).DoesE E fun x S1 => (lo ρ S1).DoesE E fun l S2 => (hi ρ S2).DoesE E fun h S3 => match x with
    | .tup ds => Q (.tup (cutD ds l h)) S3
    | _ => False := by
  unfold mSlT
  rw [does_bind]; congr 1; funext x S1
  rw [does_bind]; congr 1; funext l S2
  rw [does_bind]; congr 1; funext h S3
  cases x <;> rfl
@[simp] theorem does_slL {a : ME} {lo hi : MO} {Q : List D → Sto → Prop} : (mSlL a lo hi ρ S).DoesE E Q = (a ρ S).DoesE E fun x S1 => (lo ρ S1).DoesE E fun l S2 => (hi ρ S2).DoesE E fun h S3 => match lstOf S3 x with
    | some ds => Q (cutD ds l h) S3
    | none => False := by
  unfold mSlL
  rw [does_bind]; congr 1; funext x S1
  rw [does_bind]; congr 1; funext l S2
  rw [does_bind]; congr 1; funext h S3
  cases lstOf S3 x <;> rfl
@[simp] theorem does_part {m : ME} {Q : Option Int → Sto → Prop} : (mPart m ρ S).DoesE E Q = (m ρ S).DoesE E fun x S1 => match x with
    | .int i => Q (some i) S1
    | _ => False := by
  unfold mPart
  rw [does_bind]; congr 1; funext x S1
  cases x <;> rfl
@[simp] theorem does_noPart {Q : Option Int → Sto → Prop} : (mNoPart ρ S).DoesE E Q = Q none S := rfl
@[simp] theorem does_back {m : ME} : (mBack m ρ S).DoesE E Q = (m ρ S).DoesE E fun x S1 => match x with
    | .tup ds => Q (.tup ds.reverse) S1
    | _ => False := by
  unfold mBack
  rw [does_bind]; congr 1; funext x S1
  cases x <;> rfl
@[simp] theorem does_catL {a b : MA} {Q : List D → Sto → Prop} : (mCatL a b ρ S).DoesE E Q = (a ρ S).DoesE E fun xs S1 => (b ρ S1).DoesE E fun ys S2 => xs.length + ys.length ≤ 16777216 ∧ Q (xs ++ ys) S2 := by
  unfold mCatL
  rw [does_bind]; congr 1; funext xs S1
  rw [does_bind]; congr 1; funext ys S2
  by_cases h : xs.length + ys.length ≤ 16777216
  · rw [if_pos h]; simp [h]
  · rw [if_neg h]; simp [h, Res.DoesE]
@[simp] theorem does_app {o m : ME} : (mApp o m ρ S).DoesE EO N R B C = (o ρ S).DoesE (eAt EO ρ) fun x S1 => match x with
    | .cell n => ∃ ds0, S1[n]? = some (.lst ds0) ∧ (m ρ S1).DoesE (eAt EO ρ) fun d S2 => ∃ ds, S2[n]? = some (.lst ds) ∧ ds.length < 16777216 ∧ N ρ (S2.set n (.lst (ds ++ [d])))
    | _ => False := by
  unfold mApp
  rw [does_ofRes]; congr 1; funext x S1
  cases x with
  | cell n =>
    simp only
    cases e : S1[n]? with
    | none => simp [Out.DoesE]
    | some c =>
      cases c with
      | lst ds0 =>
        simp only [does_ofRes]
        refine propext ⟨fun q => ⟨ds0, rfl, q.mono fun d S2 z => ?_⟩, ?_⟩
        · revert z
          cases e2 : S2[n]? with
          | none => exact fun z => z.elim
          | some c2 =>
            cases c2 with
            | lst ds =>
              intro z
              by_cases l : ds.length < 16777216
              · simp only [if_pos l] at z
                exact ⟨ds, rfl, l, z⟩
              · simp only [if_neg l] at z
                exact z.elim
            | _ => exact fun z => z.elim
        · rintro ⟨ds', e', q⟩
          refine q.mono fun d S2 z => ?_
          obtain ⟨ds, e2, l, z⟩ := z
          simp only [e2, if_pos l]
          exact z
      | _ => simp [Out.DoesE]
  | _ => rfl
@[simp] theorem does_setIx {m o i : ME} : (mSetIx m o i ρ S).DoesE EO N R B C = (m ρ S).DoesE (eAt EO ρ) fun d S1 => (o ρ S1).DoesE (eAt EO ρ) fun x S2 => (i ρ S2).DoesE (eAt EO ρ) fun y S3 => match x, y with
    | .cell n, .int j => ∃ ds k, S3[n]? = some (.lst ds) ∧ ixN ds.length j = some k ∧ N ρ (S3.set n (.lst (ds.set k d)))
    | _, _ => False := by
  unfold mSetIx
  rw [does_ofRes]; congr 1; funext d S1
  rw [does_ofRes]; congr 1; funext x S2
  rw [does_ofRes]; congr 1; funext y S3
  cases x with
  | cell n =>
    cases y with
    | int j =>
      simp only
      cases e : S3[n]? with
      | none => simp [Out.DoesE]
      | some c =>
        cases c with
        | lst ds =>
          simp only
          cases e2 : ixN ds.length j with
          | none => simp [Out.DoesE, e2]
          | some k => simp [e2]
        | _ => simp [Out.DoesE]
    | _ => rfl
  | _ => rfl
@[simp] theorem does_aug {i : Nat} {f : Int → Int → Int} {m : ME} : (mAug i f m ρ S).DoesE EO N R B C = match ρ[i]? with
    | some (some (.int a)) => (m ρ S).DoesE (eAt EO ρ) fun d S1 => match d with
      | .int b => N (ρ.set i (some (.int (f a b)))) S1
      | _ => False
    | _ => False := by
  unfold mAug
  cases ρ[i]? with
  | none => rfl
  | some o =>
    cases o with
    | none => rfl
    | some d =>
      cases d with
      | int a =>
        simp only
        rw [does_ofRes]; congr 1; funext d S1
        cases d <;> rfl
      | _ => rfl
@[simp] theorem does_repL {a : MA} {b : ME} {Q : List D → Sto → Prop} : (mRepL a b ρ S).DoesE E Q = (a ρ S).DoesE E fun xs S1 => (b ρ S1).DoesE E fun y S2 => match y with
    | .int k => (k < 1000000 ∧ xs.length * k.toNat ≤ 16777216 ∧ -1000000 < k) ∧ Q (List.replicate k.toNat xs).flatten S2
    | _ => False := by
  unfold mRepL
  rw [does_bind]; congr 1; funext xs S1
  rw [does_bind]; congr 1; funext y S2
  cases y with
  | int k =>
    simp only
    by_cases h : k < 1000000 ∧ xs.length * k.toNat ≤ 16777216 ∧ -1000000 < k
    · rw [if_pos h]; simp [h]
    · rw [if_neg h]; simp [h, Res.DoesE]
  | _ => rfl
@[simp] theorem does_catC {a : ME} {b : MA} {Q : List D → Sto → Prop} : (mCatC a b ρ S).DoesE E Q = (a ρ S).DoesE E fun x S1 => (b ρ S1).DoesE E fun ys S2 => match x with
    | .cell n => ∃ xs, S2[n]? = some (.lst xs) ∧ xs.length + ys.length ≤ 16777216 ∧ Q (xs ++ ys) S2
    | _ => False := by
  unfold mCatC
  rw [does_bind]; congr 1; funext x S1
  rw [does_bind]; congr 1; funext ys S2
  cases x with
  | cell n =>
    simp only
    cases e : S2[n]? with
    | none => simp [Res.DoesE]
    | some c =>
      cases c with
      | lst xs =>
        simp only
        by_cases h : xs.length + ys.length ≤ 16777216
        · rw [if_pos h]; simp [h]
        · rw [if_neg h]; simp [h, Res.DoesE]
      | _ => simp [Res.DoesE]
  | _ => rfl
@[simp] theorem does_catV {a : ME} {b : MA} {Q : List D → Sto → Prop} : (mCatV a b ρ S).DoesE E Q = (a ρ S).DoesE E fun x S1 => (b ρ S1).DoesE E fun ys S2 => match lstOf S2 x with
    | some xs => xs.length + ys.length ≤ 16777216 ∧ Q (xs ++ ys) S2
    | none => False := by
  unfold mCatV
  rw [does_bind]; congr 1; funext x S1
  rw [does_bind]; congr 1; funext ys S2
  cases e : lstOf S2 x with
  | none => simp [Res.DoesE]
  | some xs =>
    simp only
    by_cases h : xs.length + ys.length ≤ 16777216
    · rw [if_pos h]; simp [h]
    · rw [if_neg h]; simp [h, Res.DoesE]
end
end Dm
namespace Dm
open PySem L2 PySem.Spec PyProof.Rows
open PySem.W (Frag)
noncomputable def ItA (F : Fx) (μ : List Addr) (H : Hp) (J : It) (p : D × Nat) : Prop := p.2 ≤ 16777216 ∧
  ∀ (F' : Fx) (μ' : List Addr) (H' : Hp) (S' : Sto) (i : Nat), Ext F F' H → Up μ H μ' H' → RS F' μ' H' S' → ∀ ds, seqOf S' p.1 = some ds →
    (∀ x, ds[i]? = some x → J.go i H' ∧ ∀ v H'', J.yld i H' v H'' → H'' = H' ∧ RD F' μ' H' v x) ∧ (i = ds.length → J.stop i H')
abbrev MP := Rho → Sto → Res (D × Nat)
noncomputable def iAny (m : ME) : MP := fun ρ S => (m ρ S).bind fun d S1 => match seqOf S1 d with
  | some ds => .ok (d, ds.length) S1
  | none => .bad
structure DIA (X : Cx) (W : WX) (tg iter : Expr) (m : MP) : Prop where
  ex : ∃ wi, PI X tg iter wi ∧ ∀ ξ μ σ H ρ S R, RG (fx X ξ) μ H σ ρ → RS (fx X ξ) μ H S → WR (fx X ξ) (fun μ H (J : It) (p : D × Nat) => ItA (fx X ξ) μ H J p) (m ρ S) R (fun cls dd H' => W cls dd σ H') μ H → wi σ H R
section
variable {X : Cx} {W : WX} {tg e a b c : Expr} {es : List Expr} {st : Stmt} {sts ts : List Stmt} {ma mb mc m : ME} {mr : MA} {m1 m2 : MS} {pos p p1 p2 p3 : Pos}
theorem itA_tup {F : Fx} {μ : List Addr} {H : Hp} {a : Addr} {xs : List V} {ds : List D} (f : FzT F μ H a xs) (r : RDs F μ H xs ds) (z : Sized F.K H) : ItA F μ H (Itt F.K a) (.tup ds, ds.length) := by
  obtain ⟨h1, h2⟩ := itt_ok f r z
  refine ⟨h1, fun F' μ' H' S' i e u s es h => ?_⟩
  cases h
  refine ⟨fun x hx => ?_, fun hi => (h2 F' μ' H' S' i e u s (by omega)).2 hi⟩
  have hl := (List.getElem?_eq_some_iff.mp hx).1
  obtain ⟨k1, k2⟩ := (h2 F' μ' H' S' i e u s (by omega)).1 x hx
  refine ⟨k1, fun v H'' y => ?_⟩
  obtain ⟨e1, _⟩ := id y
  obtain ⟨_, _, k3⟩ := k2 v H'' y
  subst e1
  exact ⟨rfl, k3⟩
theorem itA_lst {F : Fx} {μ : List Addr} {H : Hp} {v : V} {d : D} {ds : List D} {S : Sto} {a : Addr} (ev : v = .ref a) (s : RS F μ H S) (r : RD F μ H v d) (e : lstOf S d = some ds) (z : Sized F.K H) : ItA F μ H (Itl F.K a) (d, ds.length) := by
  obtain ⟨a', xs, e1, h1, h2⟩ := RD.lstS s r e
  rw [ev] at e1; cases e1
  refine ⟨by rw [← h2.length]; exact z _ _ (.inl h1), fun F' μ' H' S' i ex u s' es h => ?_⟩
  have r' : RD F' μ' H' v d := r.mv (.ext ex u)
  have eL : lstOf S' d = some es := by
    cases d with
    | tup _ => exact nomatch e
    | lst _ => exact h
    | cell n => exact h
    | _ => exact nomatch e
  obtain ⟨a2, ys, e2, h3, h4⟩ := RD.lstS s' r' eL
  rw [ev] at e2; cases e2
  rw [ex.k] at h3
  refine ⟨fun x hx => ?_, fun hi => ⟨ys, h3, by rw [h4.length, hi]; exact Nat.le_refl _⟩⟩
  obtain ⟨w, h5, h6⟩ := h4.get hx
  refine ⟨⟨ys, w, h3, h5⟩, fun v' H'' y => ?_⟩
  obtain ⟨e3, y⟩ := y
  have q := y ys h3
  rw [h5] at q; cases q
  exact ⟨e3, h6⟩
theorem dia_any (h : DE X W e m) : DIA X W tg e (iAny m) := by
  obtain ⟨te, pe, k⟩ := h
  refine ⟨_, piOr (piSized (pi_tup pe)) (piSized (pi_list pe)), fun ξ μ σ H ρ S R g s h => ?_⟩
  cases e1 : m ρ S with
  | bad => unfold iAny at h; rw [e1] at h; exact h.elim
  | exc c fs S1 =>
    unfold iAny at h; rw [e1] at h
    refine .inl (k ξ μ σ H ρ S _ g s ?_)
    rw [e1]; exact h
  | ok d S1 =>
    unfold iAny at h
    rw [e1] at h
    have h : WR (fx X ξ) (fun μ H (J : It) (p : D × Nat) => ItA (fx X ξ) μ H J p) (match seqOf S1 d with | some ds => .ok (d, ds.length) S1 | none => .bad) R (fun cls dd H' => W cls dd σ H') μ H := h
    by_cases c : ∃ ds, d = .tup ds
    · obtain ⟨ds, rfl⟩ := c
      refine .inl (k ξ μ σ H ρ S _ g s ?_)
      rw [e1]
      intro v μ1 H1 u1 s1 r1
      cases r1 with
      | @tup a xs _ f r => exact ⟨a, rfl, ⟨xs, f.sq⟩, fun z => h _ μ1 H1 u1 s1 (itA_tup f r z)⟩
    · cases q : seqOf S1 d with
      | none => rw [q] at h; exact h.elim
      | some ds =>
        rw [q] at h
        refine .inr (k ξ μ σ H ρ S _ g s ?_)
        rw [e1]
        have eL : lstOf S1 d = some ds := by
          cases d with
          | tup es => exact absurd ⟨es, rfl⟩ c
          | lst _ => exact q
          | cell n => exact q
          | _ => exact nomatch q
        intro v μ1 H1 u1 s1 r1
        obtain ⟨a, xs, rfl, h3, h4⟩ := RD.lstS s1 r1 eL
        exact ⟨a, rfl, ⟨xs, h3⟩, fun z => h _ μ1 H1 u1 s1 (itA_lst rfl s1 r1 eL z)⟩
noncomputable def forA (d : D) (f : D → Rho → Option Rho) (mb : MS) : Nat → Nat → Rho → Sto → Out
  | 0, _, _, _ => .bad
  | k + 1, i, ρ, S => match seqOf S d with
    | some ds => match ds[i]? with
      | none => if i = ds.length then .nx ρ S else .bad
      | some x => match f x ρ with
        | none => .bad
        | some ρ1 => match mb ρ1 S with
          | .nx ρ2 S2 => forA d f mb k (i + 1) ρ2 S2
          | .ct ρ2 S2 => forA d f mb k (i + 1) ρ2 S2
          | .bk ρ2 S2 => .nx ρ2 S2
          | .rt d S2 => .rt d S2
          | .exc c fs ρ2 S2 => .exc c fs ρ2 S2
          | .bad => .bad
    | none => .bad
noncomputable def mForA (m : ME) (f : D → Rho → Option Rho) (mb : MS) : MS := fun ρ S => ofRes (iAny m ρ S) ρ fun p S1 => forA p.1 f mb (p.2 + 1) 0 ρ S1
theorem ds_forA {f : D → Rho → Option Rho} {is : List Nat} {mb : MS} (hp : PassesOwn (model X.prog X.w) X.A X.env X.xe) (hc : X.calm = true) (hi : DE X W e m) (hg : DG X tg f is) (hb : DSs X W sts mb)
    (hs : ∀ x, foldedSetIterable e X.env x = pure x := by intro _; rfl) : DS X W (.For tg e sts [] pos) (mForA m f mb) := by
  obtain ⟨wi, pi, ki⟩ := dia_any (tg := tg) hi
  obtain ⟨tg', pg, kg⟩ := hg
  obtain ⟨tb, pb, kb⟩ := hb
  refine ⟨_, ps_for hp hc pi pg pb hs, fun ξ μ σ H ρ S D g s h => ki ξ μ σ H ρ S _ g s (WS'.bind g h fun p S1 J μ1 H1 u1 s1 r1 h1 => ?_)⟩
  obtain ⟨d, n0⟩ := p
  refine ⟨fun i k σ' H' => ∃ μ' ρ' S', Up μ1 H1 μ' H' ∧ RS (fx X ξ) μ' H' S' ∧ RG (fx X ξ) μ' H' σ' ρ' ∧ WS' (fx X ξ) (forA d f mb k i ρ' S') D W μ' H',
    ⟨_, μ1, ρ, S1, .refl, s1, g.up u1, h1⟩, ?_⟩
  rintro i k σ' H' ⟨μ', ρ', S', u', s', g', w⟩
  cases k with
  | zero => exact w.elim
  | succ k =>
    unfold forA at w
    cases q' : seqOf S' d with
    | none => rw [q'] at w; exact w.elim
    | some es =>
      rw [q'] at w
      simp only at w
      obtain ⟨t1, t2⟩ := r1.2 (fx X ξ) μ' H' S' i .refl u' s' es q'
      cases q2 : es[i]? with
      | none =>
        rw [q2] at w
        simp only at w
        by_cases hi : i = es.length
        · rw [if_pos hi] at w
          exact .inl ⟨t2 hi, w σ' μ' H' .refl s' g'⟩
        · rw [if_neg hi] at w; exact w.elim
      | some x =>
        rw [q2] at w
        simp only at w
        obtain ⟨go, yl⟩ := t1 x q2
        cases ef : f x ρ' with
        | none => rw [ef] at w; exact w.elim
        | some ρ1 =>
          rw [ef] at w
          simp only at w
          refine .inr ⟨go, fun σ2 H2 => ∃ μ' ρ' S', Up μ1 H1 μ' H2 ∧ RS (fx X ξ) μ' H2 S' ∧ RG (fx X ξ) μ' H2 σ2 ρ' ∧ WS' (fx X ξ) (forA d f mb k (i + 1) ρ' S') D W μ' H2,
            fun σ2 H2 z => ⟨k, Nat.lt_succ_self k, z⟩, fun v H2 y => ?_⟩
          obtain ⟨y1, y2⟩ := yl v H2 y
          subst y1
          refine kg ξ μ' σ' _ ρ' v x ρ1 _ g' y2 ef fun σ2 g2 _ => ?_
          refine kb ξ μ' σ2 _ ρ1 S' _ g2 s' ?_
          cases eb : mb ρ1 S' with
          | nx ρ2 S2 =>
            rw [eb] at w
            exact fun σ3 μ3 H3 u3 s3 g3 => ⟨μ3, ρ2, S2, u'.trans u3, s3, g3, w.shift u3⟩
          | ct ρ2 S2 =>
            rw [eb] at w
            exact fun σ3 μ3 H3 u3 s3 g3 => ⟨μ3, ρ2, S2, u'.trans u3, s3, g3, w.shift u3⟩
          | bk ρ2 S2 => rw [eb] at w; exact w
          | rt d S2 => rw [eb] at w; exact w
          | exc c fs ρ2 S2 => rw [eb] at w; exact w
          | bad => rw [eb] at w; exact w
noncomputable def lcA (d : D) (f : D → Rho → Option Rho) (mt me : ME) (ρ : Rho) : Nat → Nat → Sto → Option (List D × Sto)
  | 0, _, _ => none
  | k + 1, i, S => match seqOf S d with
    | none => none
    | some ds => match ds[i]? with
      | none => if i = ds.length then some ([], S) else none
      | some x => match f x ρ with
        | none => none
        | some ρ1 => match mt ρ1 S with
          | .ok (.bl true) S1 => match me ρ1 S1 with
            | .ok y S2 => match lcA d f mt me ρ k (i + 1) S2 with
              | some (ys, S3) => some (y :: ys, S3)
              | none => none
            | _ => none
          | .ok (.bl false) S1 => lcA d f mt me ρ k (i + 1) S1
          | _ => none
noncomputable def mLcA (m : ME) (f : D → Rho → Option Rho) (mt me : ME) (vs : List Nat) : MA := fun ρ S => (iAny m ρ S).bind fun p S1 => match lcA p.1 f mt me (wipeD ρ vs) (p.2 + 1) 0 S1 with
  | some (ys, S2) => .ok ys S2
  | none => .bad
theorem lcA_pos {d : D} {f : D → Rho → Option Rho} {mt me : ME} {ρ : Rho} {k i : Nat} {S : Sto} {r : List D × Sto} (h : lcA d f mt me ρ k i S = some r) : 0 < k := by
  cases k with
  | zero => exact nomatch h
  | succ k => exact Nat.succ_pos k
theorem lcA_read {wi : TI} {tg' : TG} {tt : TT} {te : TE} {f : D → Rho → Option Rho} {is vs : List Nat} {ξ μ : List Addr} {σ : L2.St} {H : Hp} {ρ : Rho} {S : Sto} {Q : VK} {Wx : Value → Option Addr → Hp → Prop} {m mt me : ME}
    (ki : ∀ R, WR (fx X ξ) (fun μ H (J : It) (p : D × Nat) => ItA (fx X ξ) μ H J p) (iAny m ρ S) R Wx μ H → wi σ H R)
    (kg : ∀ ξ μ σ H ρ v d ρ' (Q : L2.St → Hp → Prop), RG (fx X ξ) μ H σ ρ → RD (fx X ξ) μ H v d → f d ρ = some ρ' → (∀ σ', RG (fx X ξ) μ H σ' ρ' → (∀ js : List Nat, (∀ i ∈ is, i ∈ js) → wipe σ' js = wipe σ js) → Q σ' H) → tg' v σ H Q)
    (kt : ∀ ξ μ σ H ρ S Q, RG (fx X ξ) μ H σ ρ → RS (fx X ξ) μ H S → WT' (fx X ξ) (mt ρ S) Q (fun cls dd H' => W0 cls dd σ H') μ H → tt σ H Q)
    (ke : ∀ ξ μ σ H ρ S Q, RG (fx X ξ) μ H σ ρ → RS (fx X ξ) μ H S → WE' (fx X ξ) (me ρ S) Q (fun cls dd H' => W0 cls dd σ H') μ H → te σ H Q)
    (hv : ∀ i ∈ is, i ∈ vs) (g : RG (fx X ξ) μ H σ ρ) (s : RS (fx X ξ) μ H S) (h : WL' (fx X ξ) (mLcA m f mt me vs ρ S) Q Wx μ H) : tLc wi tg' tt te vs σ H Q := by
  refine ki _ (WL'.bind h fun p S1 J μ1 H1 u1 s1 r1 h1 => ?_)
  obtain ⟨d, n0⟩ := p
  intro D hD
  obtain ⟨hz, r1⟩ := r1
  have hz : n0 ≤ 16777216 := hz
  have n1 : D ∉ μ1 := s1.out hD
  have x1 : D ∉ ξ := s1.outX hD
  have ext : Ext (fx X ξ) ((fx X ξ).hold D) H1 := ⟨rfl, rfl, fun a ha => (List.mem_cons.mp ha).elim (fun z => .inr (by rw [z]; exact hD)) .inl⟩
  have main : WL' (fx X ξ) (match lcA d f mt me (wipeD ρ vs) (n0 + 1) 0 S1 with
    | some (ys, S2) => Res.ok ys S2
    | none => .bad) Q Wx μ1 H1 := h1
  refine ⟨fun i k H' => ∃ μ' S' acc dacc, Up μ1 H1 μ' H' ∧ RS ((fx X ξ).hold D) μ' H' S' ∧ H' D = some (.lst acc) ∧ RDs ((fx X ξ).hold D) μ' H' acc dacc ∧ acc.length ≤ i ∧ i + k = n0 + 1 ∧
      ∃ ys S2, lcA d f mt me (wipeD ρ vs) k i S' = some (ys, S2) ∧ ∀ μ2 H2 xs, Up μ1 H1 μ2 H2 → RS ((fx X ξ).hold D) μ2 H2 S2 → RDs ((fx X ξ).hold D) μ2 H2 xs (dacc ++ ys) → H2 D = some (.lst xs) → Q (.ref D) H2,
    ⟨_, μ1, S1, [], [], .fresh hD, s1.holds hD, upd_same, .nil, Nat.le_refl _, Nat.zero_add _, ?_⟩, ?_⟩
  · cases q : lcA d f mt me (wipeD ρ vs) (n0 + 1) 0 S1 with
    | none => rw [q] at main; exact main.elim
    | some r =>
      obtain ⟨ys, S2⟩ := r
      rw [q] at main
      exact ⟨ys, S2, rfl, fun μ2 H2 xs u2 s2 r2 e2 => main D xs μ2 H2 u2 hD s2 r2 e2⟩
  rintro i k H' ⟨μ', S', acc, dacc, u', s', hacc, racc, hla, hi, ys, S2, eL, fin⟩
  cases k with
  | zero => exact nomatch eL
  | succ k =>
    unfold lcA at eL
    cases q' : seqOf S' d with
    | none => rw [q'] at eL; exact nomatch eL
    | some es =>
      rw [q'] at eL
      simp only at eL
      obtain ⟨t1, t2⟩ := r1 ((fx X ξ).hold D) μ' H' S' i ext u' s' es q'
      cases q2 : es[i]? with
      | none =>
        rw [q2] at eL
        simp only at eL
        by_cases e : i = es.length
        · rw [if_pos e] at eL
          cases eL
          exact .inl ⟨t2 e, fin μ' H' acc u' s' (by rw [List.append_nil]; exact racc) hacc⟩
        · rw [if_neg e] at eL; exact nomatch eL
      | some x0 =>
        rw [q2] at eL
        simp only at eL
        obtain ⟨go, yl⟩ := t1 x0 q2
        cases ef : f x0 (wipeD ρ vs) with
        | none => rw [ef] at eL; exact nomatch eL
        | some ρ1 =>
          rw [ef] at eL
          simp only at eL
          refine .inr ⟨go, fun H2 => ∃ μ' S' acc dacc, Up μ1 H1 μ' H2 ∧ RS ((fx X ξ).hold D) μ' H2 S' ∧ H2 D = some (.lst acc) ∧ RDs ((fx X ξ).hold D) μ' H2 acc dacc ∧ acc.length ≤ i + 1 ∧ (i + 1) + k = n0 + 1 ∧
              ∃ ys S2, lcA d f mt me (wipeD ρ vs) k (i + 1) S' = some (ys, S2) ∧ ∀ μ2 H2 xs, Up μ1 H1 μ2 H2 → RS ((fx X ξ).hold D) μ2 H2 S2 → RDs ((fx X ξ).hold D) μ2 H2 xs (dacc ++ ys) → H2 D = some (.lst xs) → Q (.ref D) H2,
            fun H2 z => ⟨k, Nat.lt_succ_self k, z⟩, fun x H2 y => ?_⟩
          obtain ⟨eH, r2⟩ := yl x H2 y
          subst eH
          have g2 : RG (fx X (D :: ξ)) μ' H2 (wipe σ vs) (wipeD ρ vs) := (((g.up u1).mv (.ext ext u'))).wipe vs
          refine kg (D :: ξ) μ' (wipe σ vs) H2 (wipeD ρ vs) x _ ρ1 _ g2 r2 ef fun σ3 g3 w3 => ?_
          have nD : D ∉ μ' := (s'.xi D List.mem_cons_self).1
          have ww : wipe (wipe σ vs) vs = wipe σ vs := by
            refine List.ext_getElem? fun k => ?_
            rw [wipe_get, wipe_get, wipe_length]
            by_cases q : k ∈ vs ∧ k < σ.length
            · rw [if_pos q, if_pos q]
            · rw [if_neg q, if_neg q]
          refine ⟨by rw [w3 vs hv, ww], ?_⟩
          refine kt (D :: ξ) μ' σ3 H2 ρ1 S' _ g3 s' ?_
          cases et : mt ρ1 S' with
          | bad => rw [et] at eL; exact nomatch eL
          | exc c fs S3 => rw [et] at eL; exact nomatch eL
          | ok dd S3 =>
            rw [et] at eL
            cases dd with
            | bl b =>
              intro μ3 H3 u3 s3
              have eD3 : H3 D = some (.lst acc) := u3.keep _ _ hacc nD
              cases b with
              | false =>
                exact ⟨μ3, S3, acc, dacc, u'.trans u3, s3, eD3, racc.up u3, Nat.le_succ_of_le hla, by omega, ys, S2, eL, fin⟩
              | true =>
                simp only at eL
                refine ke (D :: ξ) μ3 σ3 H3 ρ1 S3 _ (g3.up u3) s3 ?_
                cases ee : me ρ1 S3 with
                | bad => rw [ee] at eL; exact nomatch eL
                | exc c fs S4 => rw [ee] at eL; exact nomatch eL
                | ok y S4 =>
                  rw [ee] at eL
                  intro v μ4 H4 u4 s4 r4
                  simp only at eL
                  cases er : lcA d f mt me (wipeD ρ vs) k (i + 1) S4 with
                  | none => rw [er] at eL; exact nomatch eL
                  | some q =>
                    obtain ⟨zs, S5⟩ := q
                    have kp := lcA_pos er
                    rw [er] at eL
                    cases eL
                    have nD3 : D ∉ μ3 := (s3.xi D List.mem_cons_self).1
                    have eD4 : H4 D = some (.lst acc) := u4.keep _ _ eD3 nD3
                    refine ⟨acc, eD4, by rw [sizeLine_eq]; omega, μ4, S4, acc ++ [v], dacc ++ [y], ?_, RS.wr (F := fx X ξ) (p := D) s4, upd_same, RDs.mv (Mv.wr (F := fx X ξ) (p := D)) _ (RDs.append (F := (fx X ξ).hold D) ((racc.up u3).up u4) (.cons r4 .nil)), by rw [List.length_append, List.length_singleton]; omega, by omega, zs, S2, er, fun μ5 H5 xs u5 s5 r5 e5 => fin μ5 H5 xs u5 s5 (by rw [List.append_assoc] at r5; exact r5) e5⟩
                    have U := u'.trans (u3.trans u4)
                    exact ⟨U.pre, U.new, fun a o ha na => by
                      rw [upd_ne (ne_of_none ha hD)]
                      exact U.keep a o ha na⟩
            | _ => exact nomatch eL
theorem dl_lcA {elt : Expr} {ifs : List Expr} {scope : Scope} {own : List (Str × Nat)} {f : D → Rho → Option Rho} {is : List Nat} {mt me : ME} (hc : X.calm = true) (hN : X.N.Nodup) (hi : DE X W e m) (ok : BlkOk X.N X.env.scope scope own)
    (hg : ∀ (s : Shared) (H : Hp) (C : Addr) (cl : List (Str × Addr)) (fp : List Addr), DG (X.blk s H scope (compEnvC scope cl C X.env) fp) tg f is)
    (ht : ∀ (s : Shared) (H : Hp) (C : Addr) (cl : List (Str × Addr)) (fp : List Addr), DTs (X.blk s H scope (compEnvC scope cl C X.env) fp) W0 ifs mt)
    (he : ∀ (s : Shared) (H : Hp) (C : Addr) (cl : List (Str × Addr)) (fp : List Addr), DE (X.blk s H scope (compEnvC scope cl C X.env) fp) W0 elt me)
    (hv : ∀ i ∈ is, i ∈ own.map (·.2) := by decide) (hs : ∀ x, foldedSetIterable e X.env x = pure x := by intro _; rfl) : DL X W (.ListComp elt [⟨tg, e, ifs, 0⟩] scope pos) (mLcA m f mt me (own.map (·.2))) := by
  obtain ⟨wi, pi, ki⟩ := dia_any (tg := tg) hi
  obtain ⟨tg', pg, kg⟩ := dg_all (Xf := blkOf X scope) (K := X.K) (mg := X.mg) (fun _ => rfl) (fun _ => rfl) fun i => hg i.1 i.2.1 i.2.2.1 i.2.2.2.1 i.2.2.2.2
  obtain ⟨tt, pt, kt⟩ := dts_all (Xf := blkOf X scope) (K := X.K) (mg := X.mg) (fun _ => rfl) (fun _ => rfl) fun i => ht i.1 i.2.1 i.2.2.1 i.2.2.2.1 i.2.2.2.2
  obtain ⟨te, pe, ke⟩ := de_all (Xf := blkOf X scope) (K := X.K) (mg := X.mg) (fun _ => rfl) (fun _ => rfl) fun i => he i.1 i.2.1 i.2.2.1 i.2.2.2.1 i.2.2.2.2
  refine ⟨_, pe_lc hc hN pi ok (fun s H C cl fp => pg (s, H, C, cl, fp)) (fun s H C cl fp => pt (s, H, C, cl, fp)) (fun s H C cl fp => pe (s, H, C, cl, fp)) hs, fun ξ μ σ H ρ S Q g s h => ?_⟩
  exact lcA_read (fun R => ki ξ μ σ H ρ S R g s) kg kt ke hv g s h
end
section
variable {S : Sto} {ρ : Rho} {N B C : Rho → Sto → Prop} {R : D → Sto → Prop} {f : D → Rho → Option Rho} {mt me : ME} {mb : MS} {E : EX} {EO : EXO}
theorem seqOf_fix {d : D} {ds : List D} (h : d = .tup ds ∨ d = .lst ds) (S : Sto) : seqOf S d = some ds := by
  rcases h with rfl | rfl <;> rfl
theorem forA_fix {d : D} {ds : List D} (h : d = .tup ds ∨ d = .lst ds) : ∀ (r pre : List D) (ρ : Rho) (S : Sto), ds = pre ++ r → forA d f mb (r.length + 1) pre.length ρ S = forL f mb r ρ S
  | [], pre, ρ, S, e => by
    unfold forA
    rw [seqOf_fix h]
    have e1 : ds[pre.length]? = none := by rw [e, List.append_nil]; exact List.getElem?_eq_none (Nat.le_refl _)
    simp only [e1]
    rw [if_pos (by rw [e, List.append_nil])] <;> rfl
  | x :: r, pre, ρ, S, e => by
    unfold forA
    rw [seqOf_fix h]
    have e1 : ds[pre.length]? = some x := by rw [e, List.getElem?_append_right (Nat.le_refl _), Nat.sub_self] <;> rfl
    simp only [e1]
    rw [forL]
    cases f x ρ with
    | none => rfl
    | some ρ1 =>
      simp only
      have q : ∀ ρ2 S2, forA d f mb (x :: r).length (pre.length + 1) ρ2 S2 = forL f mb r ρ2 S2 := fun ρ2 S2 => by
        have q := forA_fix h r (pre ++ [x]) ρ2 S2 (by rw [e, List.append_assoc] <;> rfl)
        rw [List.length_append, List.length_singleton] at q
        exact q
      cases mb ρ1 S <;> first | rfl | exact q _ _
noncomputable def forAS (d : D) (f : D → Rho → Option Rho) (mb : MS) (ρ : Rho) (S : Sto) : Out := match seqOf S d with
  | some ds => forA d f mb (ds.length + 1) 0 ρ S
  | none => .bad
@[simp] theorem does_forA {m : ME} : (mForA m f mb ρ S).DoesE EO N R B C = (m ρ S).DoesE (eAt EO ρ) fun d S1 => (forAS d f mb ρ S1).DoesE EO N R B C := by
  unfold mForA
  rw [does_ofRes]
  unfold iAny
  rw [does_bind]
  congr 1
  funext d S1
  unfold forAS
  cases seqOf S1 d <;> rfl
@[simp] theorem forAS_tup {ds : List D} : forAS (.tup ds) f mb ρ S = forL f mb ds ρ S := forA_fix (.inl rfl) ds [] ρ S rfl
@[simp] theorem forAS_lst {ds : List D} : forAS (.lst ds) f mb ρ S = forL f mb ds ρ S := forA_fix (.inr rfl) ds [] ρ S rfl
noncomputable def LcAQ (d : D) (f : D → Rho → Option Rho) (mt me : ME) (ρ : Rho) (n : Nat) (S : Sto) (Q : List D → Sto → Prop) : Prop := ∃ ys S', lcA d f mt me ρ (n + 1) 0 S = some (ys, S') ∧ Q ys S'
@[simp] theorem does_lcA {m : ME} {vs : List Nat} {Q : List D → Sto → Prop} : (mLcA m f mt me vs ρ S).DoesE E Q = (m ρ S).DoesE E fun d S1 => match seqOf S1 d with
    | some ds => LcAQ d f mt me (wipeD ρ vs) ds.length S1 Q
    | none => False := by
  unfold mLcA iAny
  rw [does_bind, does_bind]
  congr 1
  funext d S1
  cases seqOf S1 d with
  | none => rfl
  | some ds =>
    simp only [does_ok]
    unfold LcAQ
    cases e : lcA d f mt me (wipeD ρ vs) (ds.length + 1) 0 S1 with
    | none => simp [Res.DoesE]
    | some r =>
      obtain ⟨ys, S2⟩ := r
      refine propext ⟨fun q => ⟨ys, S2, rfl, q⟩, ?_⟩
      rintro ⟨ys', S2', e', q⟩
      cases e'
      exact q
theorem lcAQ_inv {d : D} {Q : List D → Sto → Prop} (I : Sto → Prop) {α : Type} {i : α → D} (t : α → Bool) (g : α → D) {as0 : List α} (hI : ∀ S, I S → seqOf S d = some (as0.map i))
    (h : ∀ a, a ∈ as0 → ∀ S1, I S1 → ∃ ρ1, f (i a) ρ = some ρ1 ∧ (mt ρ1 S1).Does (fun d S2 => d = .bl (t a) ∧ I S2) ∧ ∀ S2, I S2 → t a = true → (me ρ1 S2).Does (fun d S3 => d = g a ∧ I S3)) :
    ∀ {as pre : List α} {S : Sto}, as0 = pre ++ as → I S → (∀ S', I S' → Q ((as.filter t).map g) S') → ∃ ys S', lcA d f mt me ρ (as.length + 1) pre.length S = some (ys, S') ∧ Q ys S'
  | [], pre, S, e, hS, q => by
    refine ⟨[], S, ?_, q S hS⟩
    unfold lcA
    rw [hI S hS]
    have e1 : (as0.map i)[pre.length]? = none := by rw [e, List.append_nil]; exact List.getElem?_eq_none (by rw [List.length_map]; exact Nat.le_refl _)
    simp only [e1]
    rw [if_pos (by rw [e, List.append_nil, List.length_map])]
  | a :: as, pre, S, e, hS, q => by
    have ha : a ∈ as0 := by rw [e]; exact List.mem_append.mpr (.inr List.mem_cons_self)
    obtain ⟨ρ1, ef, k1, k2⟩ := h a ha S hS
    have e1 : (as0.map i)[pre.length]? = some (i a) := by rw [List.getElem?_map, e, List.getElem?_append_right (Nat.le_refl _), Nat.sub_self] <;> rfl
    have en : as0 = (pre ++ [a]) ++ as := by rw [e, List.append_assoc] <;> rfl
    have lp : (pre ++ [a]).length = pre.length + 1 := by rw [List.length_append, List.length_singleton]
    unfold lcA
    rw [hI S hS]
    simp only [e1, ef]
    obtain ⟨d1, S1, e2, rfl, hS1⟩ := k1.eq
    rw [e2]
    cases c : t a with
    | false =>
      simp only
      obtain ⟨ys, S', z1, z2⟩ := lcAQ_inv (as := as) (pre := pre ++ [a]) I t g hI h en hS1 (fun S' h' => by
        have := q S' h'
        rw [List.filter_cons, if_neg (by rw [c]; decide)] at this
        exact this)
      rw [lp] at z1
      exact ⟨ys, S', z1, z2⟩
    | true =>
      simp only
      obtain ⟨d2, S2, e3, rfl, hS2⟩ := (k2 S1 hS1 c).eq
      rw [e3]
      simp only
      obtain ⟨ys, S', z1, z2⟩ := lcAQ_inv (as := as) (pre := pre ++ [a]) (Q := fun ys S' => Q (g a :: ys) S') I t g hI h en hS2 (fun S' h' => by
        have := q S' h'
        rw [List.filter_cons, if_pos c] at this
        exact this)
      rw [lp] at z1
      have z1 : lcA d f mt me ρ (a :: as).length (pre.length + 1) S2 = some (ys, S') := z1
      rw [z1]
      exact ⟨_, _, rfl, z2⟩
theorem lcAQ_ext {d : D} {Q : List D → Sto → Prop} (I : Sto → Prop) {α : Type} {i : α → D} (t : α → Bool) (g : α → D) {as : List α} {n : Nat} (hn : n = as.length) (hI : ∀ S, I S → seqOf S d = some (as.map i)) (hS : I S)
    (h : ∀ a, a ∈ as → ∀ S1, I S1 → ∃ ρ1, f (i a) ρ = some ρ1 ∧ (mt ρ1 S1).Does (fun d S2 => d = .bl (t a) ∧ I S2) ∧ ∀ S2, I S2 → t a = true → (me ρ1 S2).Does (fun d S3 => d = g a ∧ I S3))
    (q : ∀ S', I S' → Q ((as.filter t).map g) S') : LcAQ d f mt me ρ n S Q := by
  subst hn
  exact lcAQ_inv (pre := []) I t g hI h rfl hS q
theorem lcA_fix {d : D} {ds : List D} (h : d = .tup ds ∨ d = .lst ds) : ∀ (r pre : List D) (S : Sto), ds = pre ++ r → lcA d f mt me ρ (r.length + 1) pre.length S = lcL f mt me ρ r S
  | [], pre, S, e => by
    unfold lcA
    rw [seqOf_fix h]
    have e1 : ds[pre.length]? = none := by rw [e, List.append_nil]; exact List.getElem?_eq_none (Nat.le_refl _)
    simp only [e1]
    rw [if_pos (by rw [e, List.append_nil])] <;> rfl
  | x :: r, pre, S, e => by
    unfold lcA
    rw [seqOf_fix h]
    have e1 : ds[pre.length]? = some x := by rw [e, List.getElem?_append_right (Nat.le_refl _), Nat.sub_self] <;> rfl
    simp only [e1]
    rw [lcL]
    have q : ∀ S2, lcA d f mt me ρ (x :: r).length (pre.length + 1) S2 = lcL f mt me ρ r S2 := fun S2 => by
      have q := lcA_fix h r (pre ++ [x]) S2 (by rw [e, List.append_assoc] <;> rfl)
      rw [List.length_append, List.length_singleton] at q
      exact q
    cases f x ρ with
    | none => rfl
    | some ρ1 =>
      simp only
      cases mt ρ1 S with
      | ok d1 S1 =>
        cases d1 with
        | bl b =>
          cases b with
          | true =>
            simp only
            cases me ρ1 S1 with
            | ok y S2 =>
              simp only
              rw [q] <;> (cases lcL f mt me ρ r S2 <;> rfl)
            | _ => rfl
          | false => exact q S1
        | _ => rfl
      | _ => rfl
theorem lcAQ_fix {d : D} {ds : List D} {Q : List D → Sto → Prop} {n : Nat} (h : d = .tup ds ∨ d = .lst ds) (hn : n = ds.length) : LcAQ d f mt me ρ n S Q = LcQ f mt me ρ ds S Q := by
  subst hn
  unfold LcAQ LcQ
  have := lcA_fix (f := f) (mt := mt) (me := me) (ρ := ρ) h ds [] S rfl
  rw [show (([] : List D).length) = 0 from rfl] at this
  rw [this]
@[simp] theorem lcAQ_tup {ds : List D} {Q : List D → Sto → Prop} : LcAQ (.tup ds) f mt me ρ ds.length S Q = LcQ f mt me ρ ds S Q := lcAQ_fix (.inl rfl) rfl
@[simp] theorem lcAQ_lst {ds : List D} {Q : List D → Sto → Prop} : LcAQ (.lst ds) f mt me ρ ds.length S Q = LcQ f mt me ρ ds S Q := lcAQ_fix (.inr rfl) rfl
end
@[simp] theorem lcAQ_fixT {ds : List D} {f : D → Rho → Option Rho} {mt me : ME} {ρ : Rho} {n : Nat} {S : Sto} {Q : List D → Sto → Prop} {α : Type} {g : α → D} {as : List α} : LcAQ (.tup (as.map g)) f mt me ρ as.length S Q = LcQ f mt me ρ (as.map g) S Q := lcAQ_fix (.inl rfl) (by rw [List.length_map])
@[simp] theorem lcAQ_fixL {ds : List D} {f : D → Rho → Option Rho} {mt me : ME} {ρ : Rho} {n : Nat} {S : Sto} {Q : List D → Sto → Prop} {α : Type} {g : α → D} {as : List α} : LcAQ (.lst (as.map g)) f mt me ρ as.length S Q = LcQ f mt me ρ (as.map g) S Q := lcAQ_fix (.inr rfl) (by rw [List.length_map])
theorem seqOf_cell {S : Sto} {n : Nat} {ds : List D} (h : S[n]? = some (.lst ds)) : seqOf S (.cell n) = some ds := by
  show (match S[n]? with | some (Cell.lst ds) => some ds | _ => none) = _
  rw [h]
end Dm
namespace Dm
open PySem L2
section
variable {S : Sto} {k : D → Prop} {i j : Int} {ds es : List D} {n : Nat} {a b : Bool} {x y : Str}
@[simp] theorem optQ_none : OptQ none k = False := rfl
@[simp] theorem optQ_ite {c : Prop} [Decidable c] {d : D} : OptQ (if c then some d else none) k = (c ∧ k d) := by
  by_cases h : c
  · rw [if_pos h]; simp [h]
  · rw [if_neg h]; simp [h]
@[simp] theorem optQ_map {α : Type} {o : Option α} {f : α → D} : OptQ (o.map f) k = (match o with
    | some z => k (f z)
    | none => False) := by cases o <;> rfl
@[simp] theorem gI_int {f : Int → Int → D} : gI f S (.int i) (.int j) = some (f i j) := rfl
@[simp] theorem gIC_int {C : Int → Int → Prop} [∀ i j, Decidable (C i j)] {f : Int → Int → D} : gIC C f S (.int i) (.int j) = if C i j then some (f i j) else none := rfl
@[simp] theorem gAdd_int : gAdd S (.int i) (.int j) = some (.int (i + j)) := rfl
@[simp] theorem gAdd_tup : gAdd S (.tup ds) (.tup es) = if ds.length + es.length ≤ 16777216 then some (.tup (ds ++ es)) else none := rfl
@[simp] theorem gNeg_int : gNeg S (.int i) = some (.int (-i)) := rfl
@[simp] theorem gLen_tup : gLen S [.tup ds] = some (.int ds.length) := rfl
@[simp] theorem gLen_lst : gLen S [.lst ds] = some (.int ds.length) := rfl
theorem lstOf_cell (h : S[n]? = some (.lst ds)) : lstOf S (.cell n) = some ds := by simp only [lstOf, h]
theorem gLen_cell (h : S[n]? = some (.lst ds)) : gLen S [.cell n] = some (.int ds.length) := by
  show (lstOf S (.cell n)).map _ = _
  rw [lstOf_cell h] <;> rfl
@[simp] theorem gInt1_int : gInt1 S [.int i] = some (.int i) := rfl
@[simp] theorem gInt1_bl : gInt1 S [.bl b] = some (.int (if b then 1 else 0)) := rfl
@[simp] theorem gII_int {f : Int → Int → Int} : gII f S [.int i, .int j] = some (.int (f i j)) := rfl
@[simp] theorem gTuple_tup : gTuple S [.tup ds] = some (.tup ds) := rfl
@[simp] theorem gTuple_lst : gTuple S [.lst ds] = some (.tup ds) := rfl
theorem gTuple_cell (h : S[n]? = some (.lst ds)) : gTuple S [.cell n] = some (.tup ds) := by
  show (lstOf S (.cell n)).map _ = _
  rw [lstOf_cell h] <;> rfl
@[simp] theorem gIx_tup : gIx S (.tup ds) (.int i) = atI ds i := rfl
@[simp] theorem gIx_lst : gIx S (.lst ds) (.int i) = atI ds i := rfl
theorem gIx_cell (h : S[n]? = some (.lst ds)) : gIx S (.cell n) (.int i) = atI ds i := by
  show (lstOf S (.cell n)).bind _ = _
  rw [lstOf_cell h] <;> rfl
@[simp] theorem gEq_int : gEq S (.int i) (.int j) = some (.bl (i == j)) := rfl
@[simp] theorem gNe_int : gNe S (.int i) (.int j) = some (.bl (!(i == j))) := rfl
@[simp] theorem gEq_str : gEq S (.str x) (.str y) = some (.bl (x == y)) := rfl
@[simp] theorem gNe_str : gNe S (.str x) (.str y) = some (.bl (!(x == y))) := rfl
theorem shaped_bool (b : Bool) : SeqAt.shaped (.bool b) = true := by cases b <;> decide
@[simp] theorem gEq_bl : gEq S (.bl a) (.bl b) = some (.bl (a == b)) := by
  show (if SeqAt.shaped (.bool a) = true ∧ SeqAt.shaped (.bool b) = true then some (PyData.eqv (.bool a) (.bool b)) else none).map D.bl = _
  rw [if_pos ⟨shaped_bool a, shaped_bool b⟩]
  simp [PyData.eqv]
@[simp] theorem gNe_bl : gNe S (.bl a) (.bl b) = some (.bl (!(a == b))) := by
  show (if SeqAt.shaped (.bool a) = true ∧ SeqAt.shaped (.bool b) = true then some (PyData.eqv (.bool a) (.bool b)) else none).map (fun b => D.bl (!b)) = _
  rw [if_pos ⟨shaped_bool a, shaped_bool b⟩]
  simp [PyData.eqv]
@[simp] theorem gIsN_non {neg : Bool} {d : D} : gIsN neg S d .non = some (.bl (if neg then !isNon d else isNon d)) := rfl
@[simp] theorem isNon_non : isNon .non = true := rfl
@[simp] theorem isNon_bl : isNon (.bl b) = false := rfl
@[simp] theorem isNon_int : isNon (.int i) = false := rfl
@[simp] theorem isNon_str : isNon (.str x) = false := rfl
@[simp] theorem isNon_tup : isNon (.tup ds) = false := rfl
@[simp] theorem isNon_lst : isNon (.lst ds) = false := rfl
@[simp] theorem isNon_cell : isNon (.cell n) = false := rfl
@[simp] theorem tyOf_non : tyOf S .non = some .non := rfl
@[simp] theorem tyOf_bl : tyOf S (.bl b) = some .bl := rfl
@[simp] theorem tyOf_int : tyOf S (.int i) = some .int := rfl
@[simp] theorem tyOf_str : tyOf S (.str x) = some .str := rfl
@[simp] theorem tyOf_tup : tyOf S (.tup ds) = some .tup := rfl
@[simp] theorem tyOf_exv {c : Str} {fs : List (Str × Int)} : tyOf S (.exn c fs) = some .exn := rfl
@[simp] theorem tyOf_lst : tyOf S (.lst ds) = some .lst := rfl
@[simp] theorem seqOf_tup : seqOf S (.tup ds) = some ds := rfl
@[simp] theorem seqOf_lst : seqOf S (.lst ds) = some ds := rfl
@[simp] theorem lstOf_lst : lstOf S (.lst ds) = some ds := rfl
@[simp] theorem flatD_int : flatD (.int i) = true := rfl
@[simp] theorem eqF_int : eqF (.int i) (.int j) = (i == j) := rfl
@[simp] theorem tgN_eq {ρ : Rho} {d : D} {i : Nat} : tgN i d ρ = some (ρ.set i (some d)) := rfl
@[simp] theorem tgT_eq {ρ : Rho} {m : Nat} {f : List D → Rho → Option Rho} : tgT m f (.tup ds) ρ = if ds.length = m then f ds ρ else none := rfl
@[simp] theorem tgCons_eq {ρ : Rho} {d : D} {f : D → Rho → Option Rho} {g : List D → Rho → Option Rho} : tgCons f g (d :: ds) ρ = (f d ρ).bind fun ρ1 => g ds ρ1 := rfl
@[simp] theorem tgNil_eq {ρ : Rho} : tgNil [] ρ = some ρ := rfl
@[simp] theorem atI_zero {α : Type} {x : α} {xs : List α} : atI (x :: xs) 0 = some x := by simp [atI, ixN]
@[simp] theorem atI_one {α : Type} {x y : α} {xs : List α} : atI (x :: y :: xs) 1 = some y := by
  have h : (1 : Int) < ((xs.length + 1 + 1 : Nat) : Int) := by omega
  simp only [atI, ixN, List.length_cons, if_pos (show (0 : Int) ≤ 1 by decide), if_pos h] <;> rfl
@[simp] theorem atI_two {α : Type} {x y z : α} {xs : List α} : atI (x :: y :: z :: xs) 2 = some z := by
  have h : (2 : Int) < ((xs.length + 1 + 1 + 1 : Nat) : Int) := by omega
  simp only [atI, ixN, List.length_cons, if_pos (show (0 : Int) ≤ 2 by decide), if_pos h] <;> rfl
theorem atI_of {α : Type} {xs : List α} {i : Int} (h0 : 0 ≤ i) (h : i < xs.length) : atI xs i = xs[i.toNat]? := by
  simp [atI, ixN, h0, h]
theorem cdivw {i j : Int} (h0 : 0 < j) (h : j < 18446744073709551616) : CDivW i j := by
  refine ⟨h0, ?_⟩
  have h1 : j.natAbs < 2 ^ 64 := by omega
  have h2 : j.natAbs.log2 < 64 := (Nat.log2_lt (by omega)).mpr h1
  omega
theorem log2_le {a : Nat} {n : Nat} (h : a < 2 ^ n) : a.log2 ≤ n := by
  by_cases h0 : a = 0
  · subst h0
    rw [Nat.log2_zero]; exact Nat.zero_le _
  · exact Nat.le_of_lt ((Nat.log2_lt h0).mpr h)
theorem cmulw {i j : Int} (n m : Nat) (h : i.natAbs < 2 ^ n) (h' : j.natAbs < 2 ^ m) (hs : n + m < 1000000) : CMulW i j := by
  have h1 := log2_le h
  have h2 := log2_le h'
  show i.natAbs.log2 + j.natAbs.log2 < 1000000
  omega
theorem cmulw64 {i j : Int} (h : -18446744073709551616 < i ∧ i < 18446744073709551616) (h' : -18446744073709551616 < j ∧ j < 18446744073709551616) : CMulW i j := cmulw 64 64 (by omega) (by omega) (by decide)
end
end Dm
namespace Dm
open PySem L2 PySem.Spec PyProof.Rows
open PySem.W (Frag)
noncomputable def keyD : D → Option Key
  | .int i => some (.inl i)
  | .str x => some (.inr x)
  | _ => none
noncomputable def valD (kvs : List (Key × D)) (k : Key) : Option D := (kvs.find? fun kv => decide (kv.1 = k)).map (·.2)
noncomputable def putD (kvs : List (Key × D)) (k : Key) (v : D) : List (Key × D) :=
  if (kvs.any fun kv => decide (kv.1 = k)) = true then kvs.map (fun kv => if kv.1 = k then (kv.1, v) else kv) else kvs ++ [(k, v)]
noncomputable def mergeD (kvs more : List (Key × D)) : List (Key × D) := more.foldl (fun acc kv => putD acc kv.1 kv.2) kvs
noncomputable def dicOf (S : Sto) : D → Option (List (Key × D))
  | .cell n => match S[n]? with
    | some (.dic kvs) => some kvs
    | _ => none
  | _ => none
section
variable {F : Fx} {μ : List Addr} {H : Hp} {S : Sto}
theorem keyD_of {v : V} {d : D} {k : Key} (r : RD F μ H v d) (e : keyD d = some k) : v = kV k := by
  cases r with
  | int i => cases e; rfl
  | str x => cases e; rfl
  | _ => exact nomatch e
theorem valV_of {k : Key} : ∀ {vk : List (Key × V)} {kvs : List (Key × D)} {d : D}, KvR F μ H vk kvs → valD kvs k = some d → ∃ v, valV vk k = some v ∧ RD F μ H v d
  | _, _, d, .nil, e => by cases e
  | p :: vk, q :: kvs, d, .cons h r, e => by
    obtain ⟨h1, h2⟩ := h
    by_cases c : q.1 = k
    · have e1 : valD (q :: kvs) k = some q.2 := by simp [valD, List.find?_cons, c]
      have e2 : valV (p :: vk) k = some p.2 := valV_pos (by rw [h1]; exact c)
      rw [e1] at e; cases e
      exact ⟨_, e2, h2⟩
    · have e1 : valD (q :: kvs) k = valD kvs k := by simp [valD, List.find?_cons, c]
      have e2 : valV (p :: vk) k = valV vk k := by
        have : ¬ p.1 = k := by rw [h1]; exact c
        simp [valV, List.find?_cons, this]
      rw [e1] at e
      rw [e2]
      exact valV_of r e
theorem valV_none {k : Key} : ∀ {vk : List (Key × V)} {kvs : List (Key × D)}, KvR F μ H vk kvs → (valV vk k).isSome = (valD kvs k).isSome
  | _, _, .nil => rfl
  | p :: vk, q :: kvs, .cons h r => by
    obtain ⟨h1, h2⟩ := h
    by_cases c : q.1 = k
    · have e1 : valD (q :: kvs) k = some q.2 := by simp [valD, List.find?_cons, c]
      have e2 : valV (p :: vk) k = some p.2 := valV_pos (by rw [h1]; exact c)
      rw [e1, e2] <;> rfl
    · have e1 : valD (q :: kvs) k = valD kvs k := by simp [valD, List.find?_cons, c]
      have e2 : valV (p :: vk) k = valV vk k := by
        have : ¬ p.1 = k := by rw [h1]; exact c
        simp [valV, List.find?_cons, this]
      rw [e1, e2]
      exact valV_none r
theorem any_of {k : Key} : ∀ {vk : List (Key × V)} {kvs : List (Key × D)}, KvR F μ H vk kvs → (vk.any fun kv => decide (kv.1 = k)) = (kvs.any fun kv => decide (kv.1 = k))
  | _, _, .nil => rfl
  | p :: vk, q :: kvs, .cons h r => by rw [List.any_cons, List.any_cons, h.1, any_of r]
theorem kvr_map {k : Key} {v : V} {d : D} (hd : RD F μ H v d) : ∀ {vk : List (Key × V)} {kvs : List (Key × D)}, KvR F μ H vk kvs → KvR F μ H (vk.map fun kv => if kv.1 = k then (kv.1, v) else kv) (kvs.map fun kv => if kv.1 = k then (kv.1, d) else kv)
  | _, _, .nil => .nil
  | p :: vk, q :: kvs, .cons h r => by
    refine .cons ?_ (kvr_map hd r)
    obtain ⟨h1, h2⟩ := h
    by_cases c : q.1 = k
    · have c' : p.1 = k := by rw [h1]; exact c
      simp only [if_pos c, if_pos c']
      exact ⟨h1, hd⟩
    · have c' : ¬ p.1 = k := by rw [h1]; exact c
      simp only [if_neg c, if_neg c']
      exact ⟨h1, h2⟩
theorem kvr_snoc {p : Key × V} {q : Key × D} (h : p.1 = q.1 ∧ RD F μ H p.2 q.2) : ∀ {vk : List (Key × V)} {kvs : List (Key × D)}, KvR F μ H vk kvs → KvR F μ H (vk ++ [p]) (kvs ++ [q])
  | _, _, .nil => .cons h .nil
  | _, _, .cons a r => .cons a (kvr_snoc h r)
theorem kvr_put {k : Key} {v : V} {d : D} (hd : RD F μ H v d) {vk : List (Key × V)} {kvs : List (Key × D)} (r : KvR F μ H vk kvs) : KvR F μ H (putK vk k v) (putD kvs k d) := by
  unfold putK putD
  rw [any_of r]
  split
  · exact kvr_map hd r
  · exact kvr_snoc ⟨rfl, hd⟩ r
theorem kvr_merge : ∀ {vm : List (Key × V)} {more : List (Key × D)} {vk : List (Key × V)} {kvs : List (Key × D)}, KvR F μ H vm more → KvR F μ H vk kvs → KvR F μ H (mergeK vk vm) (mergeD kvs more)
  | _, _, _, _, .nil, r => r
  | p :: vm, q :: more, vk, kvs, .cons h t, r => by
    obtain ⟨h1, h2⟩ := h
    unfold mergeK mergeD
    rw [List.foldl_cons, List.foldl_cons, h1]
    exact kvr_merge t (kvr_put h2 r)
theorem kvr_mv {F' : Fx} {μ' : List Addr} {H' : Hp} (m : Mv F μ H F' μ' H') {vk : List (Key × V)} {kvs : List (Key × D)} (r : KvR F μ H vk kvs) : KvR F' μ' H' vk kvs := Paired.mapP r fun _ _ z => ⟨z.1, z.2.mv m⟩
theorem dic_at {v : V} {d : D} {kvs : List (Key × D)} (s : RS F μ H S) (r : RD F μ H v d) (e : dicOf S d = some kvs) : ∃ n a vk, d = .cell n ∧ v = .ref a ∧ μ[n]? = some a ∧ S[n]? = some (.dic kvs) ∧ H a = some (.dK vk) ∧ KvR F μ H vk kvs := by
  cases r with
  | @cell a n ea =>
    have e : (match S[n]? with | some (Cell.dic kvs) => some kvs | _ => none) = some kvs := e
    cases q : S[n]? with
    | none => rw [q] at e; exact nomatch e
    | some c =>
      rw [q] at e
      cases c with
      | dic kvs' =>
        cases e
        obtain ⟨vk, h1, h2⟩ := s.at_ n a _ ea q
        exact ⟨n, a, vk, rfl, rfl, ea, q, h1, h2⟩
      | _ => exact nomatch e
  | _ => exact nomatch e
theorem RS.asCellG {p : Addr} {c : Cell} (r : RS (F.hold p) μ H S) (hx : p ∉ F.ξ) (hc : CellOk F (μ ++ [p]) H p c) : RS F (μ ++ [p]) H (S ++ [c]) := by
  have np := (r.xi p List.mem_cons_self).1
  refine ⟨by rw [List.length_append, List.length_append, r.len] <;> rfl, ?_, fun n a c' e1 e2 => ?_, fun a ha => ⟨fun z => ?_, (r.xi a (List.mem_cons_of_mem _ ha)).2⟩⟩
  · refine List.nodup_append.mpr ⟨r.nd, by simp, fun a ha b hb => ?_⟩
    rw [List.mem_singleton.mp hb]
    rintro rfl
    exact np ha
  · by_cases hn : n < μ.length
    · rw [List.getElem?_append_left hn] at e1
      rw [List.getElem?_append_left (by rw [← r.len]; exact hn)] at e2
      exact (r.at_ n a c' e1 e2).mv .asCell rfl
    · have hn' : n = μ.length := by
        have q := (List.getElem?_eq_some_iff.mp e1).1
        rw [List.length_append, List.length_singleton] at q
        omega
      subst hn'
      rw [List.getElem?_append_right (Nat.le_refl _), Nat.sub_self] at e1
      rw [List.getElem?_append_right (by rw [r.len]; exact Nat.le_refl _), r.len, Nat.sub_self] at e2
      cases e1; cases e2
      exact hc
  · rcases List.mem_append.mp z with z | z
    · exact (r.xi a (List.mem_cons_of_mem _ ha)).1 z
    · rw [List.mem_singleton.mp z] at ha
      exact hx ha
end
section
variable {X : Cx} {W : WX} {tg e a b c o i : Expr} {es : List Expr} {mo mi ma mb mc m : ME} {mr : MA} {pos p p1 p2 p3 : Pos}
noncomputable def gDIx : Sto → D → D → Option D := fun S x y => (dicOf S x).bind fun kvs => (keyD y).bind fun k => valD kvs k
noncomputable def mDNew : ME := fun _ S => .ok (.cell S.length) (S ++ [.dic []])
abbrev MPs := Rho → Sto → Res (List (D × D))
noncomputable def mPNil : MPs := fun _ S => .ok [] S
noncomputable def mPCons (k v : ME) (r : MPs) : MPs := fun ρ S => (k ρ S).bind fun x S1 => (v ρ S1).bind fun y S2 => (r ρ S2).bind fun xs S3 => .ok ((x, y) :: xs) S3
noncomputable def PrR (F : Fx) (μ : List Addr) (H : Hp) : List (V × V) → List (D × D) → Prop := Paired fun p q => RD F μ H p.1 q.1 ∧ RD F μ H p.2 q.2
structure DPs (X : Cx) (W : WX) (pos : Pos) (keys : List (Option Expr)) (values : List Expr) (m : MPs) : Prop where
  ex : ∃ trs, PPs X pos keys values trs ∧ ∀ ξ μ σ H ρ S Q, RG (fx X ξ) μ H σ ρ → RS (fx X ξ) μ H S → WR (fx X ξ) (PrR (fx X ξ)) (m ρ S) Q (fun cls dd H' => W cls dd σ H') μ H → tPairs trs σ H Q
theorem dps_nil : DPs X W pos [] [] mPNil := ⟨_, pps_nil, fun ξ μ σ H ρ S Q g s h => h [] μ H .refl s .nil⟩
theorem dps_cons {ks : List (Option Expr)} {vs : List Expr} {mr : MPs} (hk : DE X W a ma) (hv : DE X W b mb) (hr : DPs X W pos ks vs mr) : DPs X W pos (some a :: ks) (b :: vs) (mPCons ma mb mr) := by
  obtain ⟨ta, pa, ka⟩ := hk
  obtain ⟨tb, pb, kb⟩ := hv
  obtain ⟨tr, pr, kr⟩ := hr
  refine ⟨_, pps_cons pa pb pr, fun ξ μ σ H ρ S Q g s h => ka ξ μ σ H ρ S _ g s (WR.bind h fun x S1 v μ1 H1 u1 s1 r1 h1 => ?_)⟩
  refine kb ξ μ1 σ H1 ρ S1 _ (g.up u1) s1 (WR.bind h1 fun y S2 w μ2 H2 u2 s2 r2 h2 => ?_)
  refine kr ξ μ2 σ H2 ρ S2 _ (g.up (u1.trans u2)) s2 (WR.bind h2 fun ds S3 vs μ3 H3 u3 s3 r3 h3 => ?_)
  exact h3 _ μ3 H3 .refl s3 (.cons ⟨r1.up (u2.trans u3), r2.up u3⟩ r3)
noncomputable def keysD : List (D × D) → Option (List (Key × D))
  | [] => some []
  | (k, v) :: r => (keyD k).bind fun k => (keysD r).map ((k, v) :: ·)
theorem keysD_of {F : Fx} {μ : List Addr} {H : Hp} : ∀ {ps : List (V × V)} {ds : List (D × D)} {kvs : List (Key × D)}, PrR F μ H ps ds → keysD ds = some kvs → ∃ vk : List (Key × V), ps = vk.map (fun kv => (kV kv.1, kv.2)) ∧ KvR F μ H vk kvs ∧ vk.length = kvs.length
  | _, _, kvs, .nil, e => by cases e; exact ⟨[], rfl, .nil, rfl⟩
  | p :: ps, (k, d) :: ds, kvs, .cons h r, e => by
    obtain ⟨h1, h2⟩ := h
    have e : (keyD k).bind (fun k => (keysD ds).map ((k, d) :: ·)) = some kvs := e
    cases q1 : keyD k with
    | none => rw [q1] at e; exact nomatch e
    | some k' =>
      cases q2 : keysD ds with
      | none => rw [q1, q2] at e; exact nomatch e
      | some more =>
        rw [q1, q2] at e; cases e
        obtain ⟨vk, e1, e2, e3⟩ := keysD_of r q2
        refine ⟨(k', p.2) :: vk, ?_, .cons ⟨rfl, h2⟩ e2, by rw [List.length_cons, List.length_cons, e3]⟩
        rw [List.map_cons, e1, ← keyD_of h1 q1]
noncomputable def mDisp (m : MPs) : ME := fun ρ S => (m ρ S).bind fun ds S1 => match keysD ds with
  | some kvs => if kvs.length ≤ 15 then .ok (.cell S1.length) (S1 ++ [.dic (mergeD [] kvs)]) else .bad
  | none => .bad
theorem d_disp {keys : List (Option Expr)} {values : List Expr} {m : MPs} (h : DPs X W pos keys values m) (hall : keys.all (·.isSome) = true := by rfl) (hl : keys.length = values.length := by rfl) (h0 : keys ≠ [] := by exact List.cons_ne_nil _ _) (h15 : keys.length ≤ 15 := by decide) : DE X W (.Dict keys values pos) (mDisp m) := by
  obtain ⟨trs, ps, kp⟩ := h
  refine ⟨_, pe_disp ps hall hl h0 h15, fun ξ μ σ H ρ S Q g s h => fun p hp => ?_⟩
  have m0 : Mv (fx X ξ) μ H ((fx X ξ).hold p) μ (upd H p (.dK [])) := .holds hp
  have s1 : RS ((fx X ξ).hold p) μ (upd H p (.dK [])) S := s.holds hp
  have n0 : p ∉ μ := s.out hp
  refine kp (p :: ξ) μ σ (upd H p (.dK [])) ρ S _ (g.mv m0) s1 ?_
  unfold mDisp at h
  cases e : m ρ S with
  | bad => rw [e] at h; exact h.elim
  | exc cc fs S1 =>
    rw [e] at h
    have h : ∀ cls dd μ' H', Up μ H μ' H' → RS (fx X ξ) μ' H' S1 → XR (fx X ξ) μ' H' cls dd cc fs → W cls dd σ H' := h
    intro cls dd μ' H' u s' x
    have u' : Up μ H μ' H' := ⟨u.pre, fun a h1 h2 => by
      have := u.new a h1 h2
      by_cases c : a = p
      · rw [c]; exact hp
      · rw [upd_ne c] at this; exact this, fun a o' h1 h2 => u.keep a o' (by rw [upd_ne (ne_of_none h1 hp)]; exact h1) h2⟩
    exact h cls dd μ' H' u' (RS.free (F := fx X ξ) (p := p) s') ⟨x.1, x.2.imp id fun ⟨d, vfs, z1, z2, z3, z5, z4⟩ => ⟨d, vfs, z1, z2, z3, fun q => z5 (List.mem_cons_of_mem _ q), Paired.mapP z4 fun _ _ z => ⟨z.1, RD.free (F := fx X ξ) (p := p) _ z.2⟩⟩⟩
  | ok ds S1 =>
    rw [e] at h
    intro vps μ2 H2 u2 s2 r2
    have e2 : H2 p = some (.dK []) := u2.keep _ _ upd_same n0
    have np2 : p ∉ μ2 := (s2.xi p List.mem_cons_self).1
    have h : WE' (fx X ξ) (match keysD ds with | some kvs => if kvs.length ≤ 15 then .ok (.cell S1.length) (S1 ++ [.dic (mergeD [] kvs)]) else .bad | none => .bad) Q (fun cls dd H' => W cls dd σ H') μ H := h
    cases q : keysD ds with
    | none => rw [q] at h; exact h.elim
    | some kvs =>
      rw [q] at h
      simp only at h
      by_cases c : kvs.length ≤ 15
      · rw [if_pos c] at h
        obtain ⟨vk, e3, e4, e5⟩ := keysD_of r2 q
        refine ⟨e2, vk, e3, by omega, ?_⟩
        have s3 : RS ((fx X ξ).hold p) μ2 (upd H2 p (.dK (mergeK [] vk))) S1 := RS.wr (F := fx X ξ) (p := p) s2
        have e6 : KvR ((fx X ξ).hold p) μ2 (upd H2 p (.dK (mergeK [] vk))) (mergeK [] vk) (mergeD [] kvs) := kvr_mv (Mv.wr (F := fx X ξ) (p := p)) (kvr_merge e4 .nil)
        have s4 := RS.asCellG (F := fx X ξ) (c := .dic (mergeD [] kvs)) s3 (s.outX hp) ⟨_, upd_same, kvr_mv (Mv.asCell (F := fx X ξ) (p := p)) e6⟩
        refine h (.ref p) (μ2 ++ [p]) _ ?_ s4 (.cell (by rw [List.getElem?_append_right (by rw [s2.len]; exact Nat.le_refl _), s2.len, Nat.sub_self] <;> rfl))
        obtain ⟨ν, en⟩ := u2.pre
        refine ⟨⟨ν ++ [p], by rw [en, List.append_assoc]⟩, fun a ha hn => ?_, fun a o ha hn => ?_⟩
        · rcases List.mem_append.mp ha with z | z
          · have := u2.new a z hn
            by_cases c : a = p
            · rw [c]; exact hp
            · rw [upd_ne c] at this; exact this
          · rw [List.mem_singleton.mp z]; exact hp
        · rw [upd_ne (ne_of_none ha hp)]
          exact u2.keep a o (by rw [upd_ne (ne_of_none ha hp)]; exact ha) hn
      · rw [if_neg c] at h; exact h.elim
noncomputable def mSetDx (m o i : ME) : MS := fun ρ S => ofRes (m ρ S) ρ fun d S1 => ofRes (o ρ S1) ρ fun x S2 => ofRes (i ρ S2) ρ fun y S3 => match x with
  | .cell n => match S3[n]?, keyD y with
    | some (.dic kvs), some k => if kvs.length < 16777216 then .nx ρ (S3.set n (.dic (putD kvs k d))) else .bad
    | _, _ => .bad
  | _ => .bad
end
section
variable {S : Sto} {ρ : Rho} {Q : D → Sto → Prop} {N B C : Rho → Sto → Prop} {R : D → Sto → Prop} {E : EX} {EO : EXO}
@[simp] theorem keyD_int {i : Int} : keyD (.int i) = some (.inl i) := rfl
@[simp] theorem keyD_str {x : Str} : keyD (.str x) = some (.inr x) := rfl
@[simp] theorem does_dnew : (mDNew ρ S).DoesE E Q = Q (.cell S.length) (S ++ [.dic []]) := rfl
@[simp] theorem does_pnil {Q : List (D × D) → Sto → Prop} : (mPNil ρ S).DoesE E Q = Q [] S := rfl
@[simp] theorem does_pcons {k v : ME} {r : MPs} {Q : List (D × D) → Sto → Prop} : (mPCons k v r ρ S).DoesE E Q = (k ρ S).DoesE E fun x S1 => (v ρ S1).DoesE E fun y S2 => (r ρ S2).DoesE E fun xs S3 => Q ((x, y) :: xs) S3 := by
  unfold mPCons
  rw [does_bind]; congr 1; funext x S1
  rw [does_bind]; congr 1; funext y S2
  rw [does_bind] <;> rfl
@[simp] theorem does_disp {m : MPs} : (mDisp m ρ S).DoesE E Q = (m ρ S).DoesE E fun ds S1 => match keysD ds with
    | some kvs => kvs.length ≤ 15 ∧ Q (.cell S1.length) (S1 ++ [.dic (mergeD [] kvs)])
    | none => False := by
  unfold mDisp
  rw [does_bind]; congr 1; funext ds S1
  cases keysD ds with
  | none => rfl
  | some kvs =>
    simp only
    by_cases h : kvs.length ≤ 15
    · rw [if_pos h]; simp [h]
    · rw [if_neg h]; simp [h, Res.DoesE]
@[simp] theorem does_setDx {m o i : ME} : (mSetDx m o i ρ S).DoesE EO N R B C = (m ρ S).DoesE (eAt EO ρ) fun d S1 => (o ρ S1).DoesE (eAt EO ρ) fun x S2 => (i ρ S2).DoesE (eAt EO ρ) fun y S3 => match x with
    | .cell n => match S3[n]?, keyD y with
      | some (.dic kvs), some k => kvs.length < 16777216 ∧ N ρ (S3.set n (.dic (putD kvs k d)))
      | _, _ => False
    | _ => False := by
  unfold mSetDx
  rw [does_ofRes]; congr 1; funext d S1
  rw [does_ofRes]; congr 1; funext x S2
  rw [does_ofRes]; congr 1; funext y S3
  cases x with
  | cell n =>
    simp only
    cases S3[n]? with
    | none => rfl
    | some c =>
      cases c with
      | dic kvs =>
        cases keyD y with
        | none => rfl
        | some k =>
          simp only
          by_cases h : kvs.length < 16777216
          · rw [if_pos h]; simp [h]
          · rw [if_neg h]; simp [h, Out.DoesE]
      | _ => rfl
  | _ => rfl
theorem dicOf_cell {n : Nat} {kvs : List (Key × D)} (h : S[n]? = some (.dic kvs)) : dicOf S (.cell n) = some kvs := by
  show (match S[n]? with | some (Cell.dic kvs) => some kvs | _ => none) = _
  rw [h]
theorem gDIx_cell {n : Nat} {kvs : List (Key × D)} {y : D} (h : S[n]? = some (.dic kvs)) : gDIx S (.cell n) y = (keyD y).bind fun k => valD kvs k := by
  unfold gDIx
  rw [dicOf_cell h] <;> rfl
end
end Dm
namespace Dm
open PySem L2 PySem.Spec PyProof.Rows
open PySem.W (Frag)
mutual
inductive KD (K : Frag) : V → D → Prop
  | non : KD K .non .non
  | bl (b : Bool) : KD K (.bl b) (.bl b)
  | int (i : Int) : KD K (.int i) (.int i)
  | str (x : Str) : KD K (.str x) (.str x)
  | tup {a : Addr} {xs : List V} {ds : List D} : KT K a xs → KDs K xs ds → KD K (.ref a) (.tup ds)
inductive KDs (K : Frag) : List V → List D → Prop
  | nil : KDs K [] []
  | cons {v : V} {vs : List V} {d : D} {ds : List D} : KD K v d → KDs K vs ds → KDs K (v :: vs) (d :: ds)
end
mutual
theorem KD.rd {F : Fx} {μ : List Addr} {H : Hp} : ∀ {v : V} (d : D), KD F.K v d → RD F μ H v d
  | _, .non, h => by cases h; exact .non
  | _, .bl b, h => by cases h; exact .bl b
  | _, .int i, h => by cases h; exact .int i
  | _, .str x, h => by cases h; exact .str x
  | _, .tup ds, h => by
    cases h with
    | tup t r => exact .tup (.inr t) (KDs.rd ds r)
  | _, .lst _, h => by cases h
  | _, .cell _, h => by cases h
  | _, .glo _, h => by cases h
  | _, .exn _ _, h => by cases h
theorem KDs.rd {F : Fx} {μ : List Addr} {H : Hp} : ∀ {vs : List V} (ds : List D), KDs F.K vs ds → RDs F μ H vs ds
  | _, [], h => by cases h; exact .nil
  | _, d :: ds, h => by
    cases h with
    | cons a b => exact .cons (KD.rd d a) (KDs.rd ds b)
end
noncomputable def GlK (K : Frag) (mg : Str → Option Value) (x : Str) (d : D) : Prop := ∃ u v, mg x = some u ∧ RelV v u ∧ KD K v d
theorem GlK.glD {X : Cx} {K : Frag} {mg : Str → Option Value} {x : Str} {d : D} (h : GlK K mg x d) (hK : X.K = K := by rfl) (hg : X.mg = mg := by rfl) : GlD X x d := by
  obtain ⟨u, v, h1, h2, h3⟩ := h
  exact ⟨u, v, by rw [hg]; exact h1, h2, fun ξ μ H => KD.rd (F := fx X ξ) d (by show KD X.K v d; rw [hK]; exact h3)⟩
theorem kt_mk {K : Frag} {a : Addr} {its : Array Value} {n : Nat} {sl : Array (Option Value)} {xs : List V} (h : K.lookup a = some ⟨.type "tuple", none, .seq its n, sl⟩) (hz : its.size ≤ 1000) (r : Vals xs its.toList) : KT K a xs :=
  ⟨_, its, n, h, rfl, rfl, rfl, by rw [sizeLine_eq]; omega, r⟩
structure FnDD (P : Program) (w : World) (K : Frag) (mg : Str → Option Value) (base : Heap) (k : Nat) (x : Str) (st : Stmt) (dvs : List V) (kws : List (Str × V)) (ps : List Str) (m : List D → Sto → Res D) : Prop where
  ex : ∃ f fd, mg x = some (.ref f) ∧ FunD K x x (defArgs st) (defBody st) (defScope st) dvs kws f fd ∧ FnOk P w K mg base (L2.CX P w) k f fd ps (spD w K mg m)
noncomputable def mCallD (f : List D → Sto → Res D) (n q : Nat) (perm : List Nat) (dd : List D) (a k : MA) : ME := fun ρ S => (a ρ S).bind fun xs S1 => (k ρ S1).bind fun zs S2 => if xs.length = n ∧ zs.length = q then f (perm.filterMap ((xs ++ zs ++ dd)[·]?)) S2 else .bad
section
variable {S : Sto} {ρ : Rho} {Q : D → Sto → Prop} {E : EX} {EO : EXO}
@[simp] theorem does_callD {f : List D → Sto → Res D} {n q : Nat} {p : List Nat} {dd : List D} {a k : MA} : (mCallD f n q p dd a k ρ S).DoesE E Q = (a ρ S).DoesE E fun xs S1 => (k ρ S1).DoesE E fun zs S2 => (xs.length = n ∧ zs.length = q) ∧ (f (p.filterMap ((xs ++ zs ++ dd)[·]?)) S2).DoesE E Q := by
  unfold mCallD
  rw [does_bind]
  congr 1
  funext xs S1
  rw [does_bind]
  congr 1
  funext zs S2
  by_cases h : xs.length = n ∧ zs.length = q
  · rw [if_pos h]; simp [h]
  · rw [if_neg h]; simp [h, Res.DoesE]
end
end Dm
namespace L2
open PySem PySem.Spec PyProof.Rows
end L2
namespace Dm
open PySem L2 PySem.Spec PyProof.Rows
end Dm
namespace Dm
open PySem L2
open PySem.W (Frag)
section
variable {X : Cx} {W : WX} {tg e a b c : Expr} {es : List Expr} {ma mb mc m : ME} {mr : MA} {pos p p1 p2 p3 : Pos}
noncomputable def mPar (i j : Nat) (a : MA) : MS := fun ρ S => ofRes (a ρ S) ρ fun ds S1 => match ds with
  | [d, d'] => .nx ((ρ.set i (some d)).set j (some d')) S1
  | _ => .bad
theorem ds_par (i j : Nat) {x y : Str} {px py pt pt2 : Pos} {kt k2 : Nat} (hc : X.calm = true) (hN : X.N.Nodup) (ha : DA X W [a, b] mr) (hij : i ≠ j := by decide) (hi : X.N[i]? = some x := by rfl) (hj : X.N[j]? = some y := by rfl)
    (hx : X.env.scope.names.lookup x = some .local := by rfl) (hy : X.env.scope.names.lookup y = some .local := by rfl)
    (hw : swappedStores [.Tuple [.Name x px, .Name y py] kt pt] (.Tuple [a, b] k2 pt2) X.env = pure (some [x, y]) := by rfl)
    (hs : swapsWithSole [.Tuple [.Name x px, .Name y py] kt pt] (.Tuple [a, b] k2 pt2) pos.line X.env = pure false := by rfl) :
    DS X W (.Assign [.Tuple [.Name x px, .Name y py] kt pt] (.Tuple [a, b] k2 pt2) pos) (mPar i j mr) := by
  obtain ⟨ta, pa, ka⟩ := ha
  refine ⟨_, ps_par hc hN hi hj hij hx hy pa hw hs, fun ξ μ σ H ρ S D g s h => ka ξ μ σ H ρ S _ g s (WS'.bind g h fun ds S1 vs μ1 H1 u1 s1 r1 h1 => ?_)⟩
  cases r1 with
  | nil => exact h1.elim
  | @cons v vs d ds r rr =>
    cases rr with
    | nil => exact h1.elim
    | @cons v2 vs2 d2 ds2 r2 rr2 =>
      cases rr2 with
      | cons _ _ => exact h1.elim
      | nil => exact ⟨v, v2, rfl, h1 _ μ1 H1 .refl s1 (((g.up u1).set i r).set j r2)⟩
noncomputable def tgU (n : Nat) (f : List D → Rho → Option Rho) : D → Rho → Option Rho := fun d ρ => match d with
  | .tup ds => if ds.length = n then f ds ρ else none
  | .lst ds => if ds.length = n then f ds ρ else none
  | _ => none
theorem pgOr {X : Cx} {tg : Expr} {g g' : TG} (h : PG X tg g) (h' : PG X tg g') : PG X tg (fun v σ H Q => g v σ H Q ∨ g' v σ H Q) := ⟨fun pins s σ H v u Q I r hw => hw.elim (h.run pins s σ H v u Q I r) (h'.run pins s σ H v u Q I r)⟩
theorem dg_any {k n : Nat} {f : List D → Rho → Option Rho} {is : List Nat} {tp : Pos} (hc : X.calm = true) (h : DGs X es f is) (hn : (assignEach es X.env).length = n := by rfl) (hst : (assignEach es X.env).findIdx? (·.1) = none := by rfl) : DG X (.Tuple es k tp) (tgU n f) is := by
  obtain ⟨t, p, k⟩ := h
  refine ⟨_, pgOr (pg_tup hc p hn hst) (pg_lst hc p hn hst), fun ξ μ σ H ρ v d ρ' Q g r e kk => ?_⟩
  cases r with
  | @tup a xs ds fz r =>
    unfold tgU at e
    by_cases c : ds.length = n
    · simp only [if_pos c] at e
      exact .inl ⟨a, xs, rfl, fz.sq, by rw [r.length]; exact c, k ξ μ σ H ρ xs ds ρ' Q g r e kk⟩
    · simp only [if_neg c] at e
      exact nomatch e
  | @lst a xs ds fz r =>
    unfold tgU at e
    by_cases c : ds.length = n
    · simp only [if_pos c] at e
      exact .inr ⟨a, xs, rfl, fz.sq, by rw [r.length]; exact c, k ξ μ σ H ρ xs ds ρ' Q g r e kk⟩
    · simp only [if_neg c] at e
      exact nomatch e
  | _ => exact nomatch e
noncomputable def mRepC (a b : ME) : MA := fun ρ S => (a ρ S).bind fun x S1 => (b ρ S1).bind fun y S2 => match x, y with
  | .cell n, .int k => match S2[n]? with
    | some (.lst xs) => if k < 1000000 ∧ xs.length * k.toNat ≤ 16777216 ∧ -1000000 < k then .ok (List.replicate k.toNat xs).flatten S2 else .bad
    | _ => .bad
  | _, _ => .bad
noncomputable def mLstRg (a : MA) : MA := fun ρ S => (a ρ S).bind fun ds S1 => match ds with
  | [.int i, .int j] => @ite _ (-1000000000000000000 ≤ i ∧ i ≤ 1000000000000000000 ∧ -1000000000000000000 ≤ j ∧ j ≤ 1000000000000000000 ∧ j - i ≤ 16777216) (Classical.propDecidable _) (.ok (rngD i (j - i).toNat) S1) .bad
  | _ => .bad
end
section
variable {S : Sto} {ρ : Rho} {N B C : Rho → Sto → Prop} {R : D → Sto → Prop} {E : EX} {EO : EXO}
@[simp] theorem does_par {i j : Nat} {a : MA} : (mPar i j a ρ S).DoesE EO N R B C = (a ρ S).DoesE (eAt EO ρ) fun ds S1 => match ds with
    | [d, d'] => N ((ρ.set i (some d)).set j (some d')) S1
    | _ => False := by
  unfold mPar
  rw [does_ofRes]; congr 1; funext ds S1
  match ds with
  | [] => rfl
  | [_] => rfl
  | [_, _] => rfl
  | _ :: _ :: _ :: _ => rfl
@[simp] theorem tgU_tup {m : Nat} {f : List D → Rho → Option Rho} {ds : List D} : tgU m f (.tup ds) ρ = if ds.length = m then f ds ρ else none := rfl
@[simp] theorem tgU_lst {m : Nat} {f : List D → Rho → Option Rho} {ds : List D} : tgU m f (.lst ds) ρ = if ds.length = m then f ds ρ else none := rfl
@[simp] theorem does_repC {a b : ME} {Q : List D → Sto → Prop} : (mRepC a b ρ S).DoesE E Q = (a ρ S).DoesE E fun x S1 => (b ρ S1).DoesE E fun y S2 => match x, y with
    | .cell n, .int k => ∃ xs, S2[n]? = some (.lst xs) ∧ (k < 1000000 ∧ xs.length * k.toNat ≤ 16777216 ∧ -1000000 < k) ∧ Q (List.replicate k.toNat xs).flatten S2
    | _, _ => False := by
  unfold mRepC
  rw [does_bind]; congr 1; funext x S1
  rw [does_bind]; congr 1; funext y S2
  cases x with
  | cell n =>
    cases y with
    | int k =>
      simp only
      cases e : S2[n]? with
      | none => simp [Res.DoesE]
      | some c =>
        cases c with
        | lst xs =>
          simp only
          by_cases h : k < 1000000 ∧ xs.length * k.toNat ≤ 16777216 ∧ -1000000 < k
          · rw [if_pos h]; simp [h]
          · rw [if_neg h]; simp [h, Res.DoesE]
        | _ => simp [Res.DoesE]
    | _ => rfl
  | _ => cases y <;> rfl
@[simp] theorem does_lstRg {a : MA} {Q : List D → Sto → Prop} : (mLstRg a ρ S).DoesE E Q = (a ρ S).DoesE E fun ds S1 => match ds with
    | [.int i, .int j] => (-1000000000000000000 ≤ i ∧ i ≤ 1000000000000000000 ∧ -1000000000000000000 ≤ j ∧ j ≤ 1000000000000000000 ∧ j - i ≤ 16777216) ∧ Q (rngD i (j - i).toNat) S1
    | _ => False := by
  unfold mLstRg
  rw [does_bind]; congr 1; funext ds S1
  match ds with
  | [] => rfl
  | [d] => cases d <;> rfl
  | [d, d'] =>
    cases d with
    | int i =>
      cases d' with
      | int j =>
        simp only
        by_cases h : -1000000000000000000 ≤ i ∧ i ≤ 1000000000000000000 ∧ -1000000000000000000 ≤ j ∧ j ≤ 1000000000000000000 ∧ j - i ≤ 16777216
        · rw [if_pos h]; simp [h]
        · rw [if_neg h]; simp [h, Res.DoesE]
      | _ => rfl
    | _ => cases d' <;> rfl
  | d :: d' :: _ :: _ => cases d <;> (try rfl) <;> cases d' <;> rfl
end
end Dm
namespace Dm
open PySem L2
section
variable {X : Cx} {W : WX} {e : Expr} {m : ME} {te te' : TE} {k : Nat} {p1 p2 p3 pos : Pos}
theorem peOr (h : PE X e te) (h' : PE X e te') : PE X e (fun σ H Q => te σ H Q ∨ te' σ H Q) := ⟨fun pins s σ H Q I hw => hw.elim (h.run pins s σ H Q I) (h'.run pins s σ H Q I)⟩
noncomputable def mBackA (m : ME) : ME := fun ρ S => (m ρ S).bind fun x S1 => match x with
  | .tup ds => .ok (.tup ds.reverse) S1
  | x => match lstOf S1 x with
    | some ds => .ok (.lst ds.reverse) S1
    | none => .bad
theorem d_backA (h : DE X W e m) : DE X W (.Subscript e (.Slice none none (some (.UnaryOp .USub (.Constant (.int 1) k p1) p2)) p3) pos) (mBackA m) := by
  obtain ⟨te, pe, ke⟩ := h
  refine ⟨_, peOr (pe_backT pe) (pe_revL pe), fun ξ μ σ H ρ S Q g s h => ?_⟩
  unfold mBackA at h
  cases e1 : m ρ S with
  | bad => rw [e1] at h; exact h.elim
  | exc c fs S1 =>
    rw [e1] at h
    refine .inl (ke ξ μ σ H ρ S _ g s ?_)
    rw [e1]; exact h
  | ok d S1 =>
    rw [e1] at h
    by_cases c : ∃ ds, d = .tup ds
    · obtain ⟨ds, rfl⟩ := c
      refine .inl (ke ξ μ σ H ρ S _ g s ?_)
      rw [e1]
      intro v μ1 H1 u1 s1 r1
      cases r1 with
      | @tup a xs _ f r =>
        exact ⟨a, xs, rfl, f.sq, fun p o hp ho => h _ μ1 _ (u1.trans (.fresh hp)) (s1.fresh hp) (.tup (.inl ⟨.new ho, s1.out hp, s1.outX hp⟩) (r.reverse.up (.fresh hp)))⟩
    · have h : WE' (fx X ξ) (match lstOf S1 d with | some ds => .ok (.lst ds.reverse) S1 | none => .bad) Q (fun cls dd H' => W cls dd σ H') μ H := by
        cases d with
        | tup ds => exact absurd ⟨ds, rfl⟩ c
        | _ => exact h
      refine .inr (ke ξ μ σ H ρ S _ g s ?_)
      rw [e1]
      intro v μ1 H1 u1 s1 r1
      cases q : lstOf S1 d with
      | none => rw [q] at h; exact h.elim
      | some ds =>
        rw [q] at h
        obtain ⟨a, xs, rfl, h3, r3⟩ := RD.lstS s1 r1 q
        exact ⟨a, xs, rfl, h3, fun p hp => h _ μ1 _ (u1.trans (.fresh hp)) (s1.fresh hp) (.lst (.inl ⟨.inl upd_same, s1.out hp, s1.outX hp⟩) (r3.reverse.up (.fresh hp)))⟩
end
section
variable {S : Sto} {ρ : Rho} {Q : D → Sto → Prop} {E : EX} {EO : EXO}
@[simp] theorem does_backA {m : ME} : (mBackA m ρ S).DoesE E Q = (m ρ S).DoesE E fun x S1 => match x with
    | .tup ds => Q (.tup ds.reverse) S1
    | x => match lstOf S1 x with
      | some ds => Q (.lst ds.reverse) S1
      | none => False := by
  unfold mBackA
  rw [does_bind]; congr 1; funext x S1
  cases x with
  | lst ds => rfl
  | cell n =>
    simp only
    cases lstOf S1 (.cell n) <;> rfl
  | _ => rfl
end
end Dm
namespace Dm
open PySem L2 PySem.Spec PyProof.Rows
section
variable {P : Program} {w : World} {A : Around} {E : Value → Shared → Prop} {s : Shared}
noncomputable def bare (w : World) : Obj := { cls := .type "set", dict := none, data := .set #[] 0 (.fresh 0 0 (!w.params.followText "set-order")) }
end
end Dm
namespace Dm
open PySem L2 PySem.Spec PyProof.Rows
open PySem.W (Frag)
noncomputable def insU (x : Int) : List Int → List Int
  | [] => [x]
  | y :: r => if x < y then x :: y :: r else if x = y then y :: r else y :: insU x r
noncomputable def uniq : List Int → List Int
  | [] => []
  | x :: r => insU x (uniq r)
section
variable {X : Cx} {W : WX} {e : Expr} {m : ME} {p p1 p2 pos : Pos}
noncomputable def gSortSet : Sto → D → Option (List D) := fun S d => (lstOf S d).bind fun es => (intsOf es).bind fun ns => if (uniq ns).length ≤ 4000 then some ((uniq ns).map .int) else none
noncomputable def mSortSet (m : ME) : MA := fun ρ S => (m ρ S).bind fun d S1 => match gSortSet S1 d with
  | some ds => .ok ds S1
  | none => .bad
end
section
variable {S : Sto} {ρ : Rho} {E : EX}
@[simp] theorem does_sortSet {m : ME} {Q : List D → Sto → Prop} : (mSortSet m ρ S).DoesE E Q = (m ρ S).DoesE E fun d S1 => match gSortSet S1 d with
    | some ds => Q ds S1
    | none => False := by
  unfold mSortSet
  rw [does_bind]; congr 1; funext d S1
  cases gSortSet S1 d <;> rfl
end
end Dm
namespace Dm
open PySem L2 PySem.Spec PyProof.Rows
open PySem.W (Frag)
end Dm
namespace Dm
open PySem L2 PySem.Spec PyProof.Rows
open PySem.W (Frag)
inductive KEs (K : Frag) (P : Params) : List DictEntry → List (Str × D) → Prop
  | nil : KEs K P [] []
  | cons {e : DictEntry} {r : List DictEntry} {x : Str} {t : Tok} {v : V} {d : D} {kvs : List (Str × D)} : e.key = .str x t → e.hash = PyData.keyHash P x → RelV v e.val → KD K v d → KEs K P r kvs → KEs K P (e :: r) ((x, d) :: kvs)
noncomputable def tbLook : List (Str × D) → Str → Option D
  | [], _ => none
  | (x, d) :: r, z => if x = z then some d else tbLook r z
theorem KEs.lit {K : Frag} {P : Params} : ∀ {es : List DictEntry} {kvs : List (Str × D)}, KEs K P es kvs → PySem.W.KeysLit P es
  | _, _, .nil => trivial
  | _, _, .cons h1 h2 _ _ r => ⟨⟨_, _, h1, h2⟩, r.lit⟩
theorem KEs.noRef {K : Frag} {P : Params} : ∀ {es : List DictEntry} {kvs : List (Str × D)}, KEs K P es kvs → es.any (·.refKey) = false
  | _, _, .nil => rfl
  | _, _, .cons h1 _ _ _ r => by
    rw [List.any_cons, r.noRef, Bool.or_false]
    unfold DictEntry.refKey
    rw [h1]
theorem KEs.find {K : Frag} {P : Params} (z : Str) : ∀ {es : List DictEntry} {kvs : List (Str × D)}, KEs K P es kvs →
    match tbLook kvs z with
    | some d => ∃ e v, es.find? (·.key.isStr z) = some e ∧ RelV v e.val ∧ KD K v d
    | none => es.find? (·.key.isStr z) = none
  | _, _, .nil => rfl
  | _, _, .cons (e := e) (x := x) (t := t) (v := v) (d := d) (kvs := kvs) h1 h2 h3 h4 r => by
    have ih := KEs.find z r
    unfold tbLook
    by_cases c : x = z
    · rw [if_pos c]
      refine ⟨e, v, ?_, h3, h4⟩
      rw [List.find?_cons_of_pos]
      rw [h1, PySem.W.isStr_of]
      show (x == z) = true
      rw [c]; exact beq_self_eq_true _
    · rw [if_neg c]
      have n : ¬ (e.key.isStr z) = true := by
        rw [h1, PySem.W.isStr_of]
        intro q
        exact c (of_decide_eq_true (by simpa [Value.isStrOf] using q))
      rw [List.find?_cons_of_neg (p := fun q : DictEntry => q.key.isStr z) n]
      exact ih
noncomputable def GlT (K : Frag) (w : World) (mg : Str → Option Value) (x : Str) (kvs : List (Str × D)) : Prop :=
  ∃ d es n, mg x = some (.ref d) ∧ K.lookup d = some ⟨.type "dict", none, .dict es n, #[]⟩ ∧ (d == sysModules) = false ∧ KEs K w.params es.toList kvs
noncomputable def mTbIn (neg : Bool) (kvs : List (Str × D)) (a : ME) : ME := fun ρ S => (a ρ S).bind fun x S1 => match x with
  | .str z => .ok (.bl (if neg then !(tbLook kvs z).isSome else (tbLook kvs z).isSome)) S1
  | _ => .bad
noncomputable def mTbIx (kvs : List (Str × D)) (a : ME) : ME := fun ρ S => (a ρ S).bind fun x S1 => match x with
  | .str z => match tbLook kvs z with
    | some d => .ok d S1
    | none => .bad
  | _ => .bad
theorem nsIn_tab {K : Frag} {P : Params} {d : Addr} {es : Array DictEntry} {n : Nat} {kvs : List (Str × D)} (l : K.lookup d = some ⟨.type "dict", none, .dict es n, #[]⟩) (k : KEs K P es.toList kvs) (z : Str) :
    match tbLook kvs z with
    | some dd => ∃ u v, PySem.W.nsIn K d z = some (some u) ∧ RelV v u ∧ KD K v dd
    | none => PySem.W.nsIn K d z = some none := by
  have h := KEs.find z k
  unfold PySem.W.nsIn
  rw [l]
  cases q : tbLook kvs z with
  | some dd =>
    rw [q] at h
    obtain ⟨e, v, h1, h2, h3⟩ := h
    refine ⟨e.val, v, ?_, h2, h3⟩
    simp only [h1]
  | none =>
    rw [q] at h
    have h' : es.toList.find? (·.key.isStr z) = none := h
    simp only [h', k.noRef, Bool.false_eq_true, if_false]
section
variable {X : Cx} {W : WX} {a : Expr} {ma : ME} {pos p : Pos}
theorem tb_name {x : Str} {kvs : List (Str × D)} (hg : Gl X x) (h : GlT X.K X.w X.mg x kvs) (hd : (x == ("__debug__" : Str)) = false := by decide) :
    ∃ (d : Addr) (es : Array DictEntry) (n : Nat), KDict X.K X.w d es n ∧ KEs X.K X.w.params es.toList kvs ∧ PE X (.Name x p) (fun _ H Q => Q (.ref d) H) := by
  obtain ⟨d, es, n, h1, h2, h3, h4⟩ := h
  exact ⟨d, es, n, ⟨h2, h4.lit, h3⟩, h4, pe_glob hg h1 rfl hd⟩
theorem dt_tbnot {x : Str} {kvs : List (Str × D)} (hg : Gl X x) (h : GlT X.K X.w X.mg x kvs) (ha : DE X W a ma) (hd : (x == ("__debug__" : Str)) = false := by decide) (hm : behindInMarks .NotIn (.Name x p) = false := by first | exact nomark _ | rfl) : DT X W (.Compare a [.NotIn] [.Name x p] pos) (mTbIn true kvs ma) := by
  obtain ⟨ta, pa, ka⟩ := ha
  obtain ⟨d, es, n, hD, hK, pn⟩ := tb_name (p := p) hg h hd
  refine ⟨_, pt_cmpR (op_notIn_kd hD) pa pn hm, fun ξ μ σ H ρ S Q g s h => ka ξ μ σ H ρ S _ g s (WR.bind (WT'.val h) fun y S1 v μ1 H1 u1 s1 r1 h1 => ?_)⟩
  cases r1 with
  | str z =>
    have q := nsIn_tab hD.at_ hK z
    cases e : tbLook kvs z with
    | some dd =>
      simp only [e] at q h1
      obtain ⟨u, v', q1, q2, q3⟩ := q
      exact ⟨z, some u, rfl, rfl, q1, h1 _ μ1 H1 .refl s1 (.bl _)⟩
    | none =>
      simp only [e] at q h1
      exact ⟨z, none, rfl, rfl, q, h1 _ μ1 H1 .refl s1 (.bl _)⟩
  | _ => exact h1.elim
theorem d_tbix {x : Str} {kvs : List (Str × D)} (hg : Gl X x) (h : GlT X.K X.w X.mg x kvs) (ha : DE X W a ma) (hd : (x == ("__debug__" : Str)) = false := by decide) (hs : PlainIx a := by exact fun _ _ => rfl) : DE X W (.Subscript (.Name x p) a pos) (mTbIx kvs ma) := by
  obtain ⟨ta, pa, ka⟩ := ha
  obtain ⟨d, es, n, hD, hK, pn⟩ := tb_name (p := p) hg h hd
  refine ⟨_, pe_ix ix_kdict pn pa hs, fun ξ μ σ H ρ S Q g s h => ka ξ μ σ H ρ S _ g s (WR.bind h fun y S1 v μ1 H1 u1 s1 r1 h1 => ?_)⟩
  cases r1 with
  | str z =>
    have q := nsIn_tab hD.at_ hK z
    cases e : tbLook kvs z with
    | some dd =>
      simp only [e] at q h1
      obtain ⟨u, v', q1, q2, q3⟩ := q
      exact ⟨d, z, v', rfl, rfl, ⟨es, n, u, hD.at_, hD.lit, q1, q2⟩, h1 _ μ1 H1 .refl s1 (KD.rd (F := fx X ξ) dd q3)⟩
    | none =>
      simp only [e] at h1
      exact h1.elim
  | _ => exact h1.elim
end
end Dm
namespace Dm
open PySem L2 PySem.Spec PyProof.Rows
open PySem.W (Frag)
structure RoomG (k : Nat) (A : Around) : Prop extends Room k A where
  gd : A.guards = some []
theorem RoomG.mono {j k : Nat} {A : Around} (r : RoomG k A) (h : j ≤ k) : RoomG j A := ⟨r.toRoom.mono h, r.gd⟩
theorem RoomG.deeper {k : Nat} {A : Around} (r : RoomG (k + 1) A) (env : Env) : RoomG k (A.deeper env) := ⟨r.toRoom.deeper env, r.gd⟩
theorem roomG_top {k : Nat} (h : Room k callerA) : RoomG k callerA := ⟨h, rfl⟩
structure FnG (P : Program) (w : World) (K : Frag) (mg : Str → Option Value) (base : Heap) (CX : CXT) (k : Nat) (f : Addr) (fd : FuncData) (ps : List Str) (sp : Sp) : Prop where
  len : ∀ vs H Q E, sp vs H Q E → vs.length = ps.length
  run : ∀ (A : Around) (outer : List Env) (s : Shared) (H : Hp) (args : Args) (us : List Value) (vs : List V) (Q : VK) (E : XK), RoomG k A → Env0 P w K mg base A outer s H → BindsTo s fd args (ps.zip us) → Vals vs us → sp vs H Q E →
    codeAny (model P w) A (.call (.ref f) args) (CR CX outer P w H s Q E) s
section
variable {P : Program} {w : World} {K : Frag} {mg : Str → Option Value} {base : Heap} {CX : CXT} {k : Nat} {f : Addr} {fd : FuncData} {ps N : List Str} {sp : Sp}
theorem FnG.mono {j : Nat} (F : FnG P w K mg base CX j f fd ps sp) (h : j ≤ k) : FnG P w K mg base CX k f fd ps sp := ⟨F.len, fun A outer s H args us vs Q E hr => F.run A outer s H args us vs Q E (hr.mono h)⟩
theorem FnG.imp {sp' : Sp} (F : FnG P w K mg base CX k f fd ps sp) (h : ∀ vs H Q E, sp' vs H Q E → sp vs H Q E) : FnG P w K mg base CX k f fd ps sp' :=
  ⟨fun vs H Q E q => F.len vs H Q E (h _ _ _ _ q), fun A outer s H args us vs Q E hr he hb hv hs => F.run A outer s H args us vs Q E hr he hb hv (h _ _ _ _ hs)⟩
theorem ce_of {X : Cx} {outer : List Env} {s s' : Shared} {H H' : Hp} {σ : L2.St} {Q : VK} {v : V} {u : Value} (J : Inv X [] σ H' s') (hP : X.prog = P) (hw : X.w = w) (hs : X.s_0 = s) (hH : X.H_0 = H) (ho : X.fs = frs outer) (hx : X.ex = []) (rv : RelV v u) (q : Q v H') : CE outer P w H s Q u s' := by
  subst hP hw hs hH
  have un := J.base
  rw [ho, hx] at un
  exact ⟨v, H', J.os, J.bare, un, J.hok, rv, q⟩
theorem fng_body {name qual : Str} {params : Arguments} {body : List Stmt} {scope : Scope} {dV kV doc pm cdv ct oc : Value} {an od : Option Addr} {osl : Array (Option Value)} (lk : K.lookup f = some ⟨oc, od, .func (PySem.W.fnOf name qual params body scope dV kV doc pm an cdv ct), osl⟩)
    (hcd : PySem.W.codeIn K cdv qual = true) (S : FnScope N ps scope) (len : ∀ vs H Q E, sp vs H Q E → vs.length = ps.length)
    (hbody : ∀ (A : Around) (outer : List Env) (s : Shared) (H : Hp) (vs : List V) (Q : VK) (E : XK), RoomG k (A.deeper (envOfC qual scope s.heap.objs.size f cdv)) → sp vs H Q E →
      ∃ t, PSs (cxOf CX P w K mg base N qual scope f cdv A outer s H E) body t ∧ t { nx := fun _ H' => Q .non H', rt := Q } (L2.start N vs) H) :
    FnG P w K mg base CX (k + 1) f (PySem.W.fnOf name qual params body scope dV kV doc pm an cdv ct) ps sp where
  len := len
  run A outer s H args us vs Q E hr e0 hb r hsp := by
    have up : ∀ b o, base.get? b = some o → s.heap.get? b = some o := fun b o e => (e0.bs b o e).1
    have known : ∀ y ∈ ps.zip us, scope.names.lookup y.1 = some .local ∨ (scope.names.lookup y.1 = some .cell ∧ ((cellsFrom (s.heap.objs.size + 1) scope.names []).lookup y.1).isSome = true) := by
      rintro ⟨n, v⟩ hy
      exact (S.par n (List.of_mem_zip hy).1).imp id fun q => ⟨q, PySem.W.cellsFrom_some _ _ _ (.inl q)⟩
    obtain ⟨t, ht, hq⟩ := hbody A outer s H vs Q E (hr.deeper _) hsp
    refine codeAny_call_function hr.toRoom.depth (e0.mod.kin.keeps up _ _ lk) rfl S.co S.gen rfl (PySem.W.codeRec_of (e0.mod.kin.keeps up) hcd) (hb _ _ _ _ (wpAny_newFunctionEnv_cells S.kind known ?_))
    rintro env rfl s1 x
    refine ⟨(e0.mod.nolimit.keeps up).keeps x.toInCall.keep, codeAny_func (wpAny_mono (ht.run [] s1 (L2.start N vs) H _ (inv_start S hr.toRoom.hd e0 (len _ _ _ _ hsp) r x) hq) ?_ fun _ _ hs => hs)⟩
    intro fl s' hs
    match fl, hs with
    | .ret u, ⟨v, σ', H', J, rv, q⟩ => exact ce_of (outer := outer) J rfl rfl rfl rfl rfl rfl rv q
    | .next, ⟨σ', H', J, q⟩ => exact ce_of (outer := outer) (v := V.non) (u := Value.none) J rfl rfl rfl rfl rfl rfl rfl q
    | .brk, ⟨_, _, _, q⟩ => exact False.elim q
    | .cont, ⟨_, _, _, q⟩ => exact False.elim q
theorem fung_ok {x qual : Str} {st : Stmt} (F : Fun K x qual st f fd) (S : FnScope N ps (defScope st)) (len : ∀ vs H Q E, sp vs H Q E → vs.length = ps.length)
    (hbody : ∀ (cdv : Value) (A : Around) (outer : List Env) (s : Shared) (H : Hp) (vs : List V) (Q : VK) (E : XK), RoomG k (A.deeper (envOfC qual (defScope st) s.heap.objs.size f cdv)) → sp vs H Q E →
      ∃ t, PSs (cxOf CX P w K mg base N qual (defScope st) f cdv A outer s H E) (defBody st) t ∧ t { nx := fun _ H' => Q .non H', rt := Q } (L2.start N vs) H) : FnG P w K mg base CX (k + 1) f fd ps sp := by
  obtain ⟨oc, od, kV, doc, pm, an, cdv, ct, osl, rfl, lk, hcd⟩ := F.ex
  exact fng_body lk hcd S len (hbody cdv)
end
structure FnDG (P : Program) (w : World) (K : Frag) (mg : Str → Option Value) (base : Heap) (k : Nat) (x : Str) (st : Stmt) (ps : List Str) (m : List D → Sto → Res D) : Prop where
  ex : ∃ f fd, mg x = some (.ref f) ∧ Fun K x x st f fd ∧ Binds K fd ps [] ∧ FnG P w K mg base (L2.CX P w) k f fd ps (spD w K mg m)
structure FnDDG (P : Program) (w : World) (K : Frag) (mg : Str → Option Value) (base : Heap) (k : Nat) (x : Str) (st : Stmt) (dvs : List V) (kws : List (Str × V)) (ps : List Str) (m : List D → Sto → Res D) : Prop where
  ex : ∃ f fd, mg x = some (.ref f) ∧ FunD K x x (defArgs st) (defBody st) (defScope st) dvs kws f fd ∧ FnG P w K mg base (L2.CX P w) k f fd ps (spD w K mg m)
section
variable {X : Cx} {CX : CXT} {k : Nat} {f : Addr} {fd : FuncData} {ps : List Str} {sp : Sp} {dvs : List V} {ds : List Value} {E : L2.St → XK} {x : Str} {p pos : Pos} {e : Expr} {es : List Expr} {t : TA}
theorem run_fnSG {pins : List (Addr × Obj)} {σ : L2.St} {H : Hp} {s : Shared} {Q : VK} {us : List Value} {vs : List V} (F : FnG X.prog X.w X.K X.mg X.base CX k f fd ps sp) (hr : RoomG k X.A) (hb : Binds X.K fd ps ds) (hd : Vals dvs ds) (hx : PassesAt CX X σ (E σ))
    (I : Inv X pins σ H s) (r : Vals vs us) (h : sp (vs ++ dvs) H Q (E σ)) : wpAny (model X.prog X.w) X.A (call (.ref f) us) (EP X pins σ Q) X.xe s := by
  have r2 := r.append hd
  refine wpAny_call (codeAny_mono (F.run X.A X.stack s H ⟨us, []⟩ (us ++ ds) (vs ++ dvs) Q (E σ) hr I.env0 (hb s us I.kIn (r2.length.symm.trans (F.len _ _ _ _ h))) r2 h) fun r s' hq => ?_)
  match r, hq with
  | .error e, q => exact hx pins H s e s' I q
  | .ok (.ret u), q => exact I.after q
  | .ok .next, q => exact False.elim q
  | .ok .brk, q => exact False.elim q
  | .ok .cont, q => exact False.elim q
theorem pe_callSG (F : FnG X.prog X.w X.K X.mg X.base CX k f fd ps sp) (hr : RoomG k X.A) (hg : Gl X x) (hm : X.mg x = some (.ref f)) (hk : PySem.W.keepIn X.K (.ref f) = true) (hb : Binds X.K fd ps ds) (hd : Vals dvs ds) (hx : ∀ σ, PassesAt CX X σ (E σ))
    (ha : PA X (e :: es) t) (hdb : (x == ("__debug__" : Str)) = false := by decide) (he : starEach (e :: es) X.env = (false, eval e X.env) :: starEach es X.env := by rfl) (hpl : (backTo pos (starEach es X.env)).any (·.1) = false := by rfl) :
    PE X (.Call (.Name x p) (e :: es) [] pos) (tCallSD sp dvs E t) where
  run pins s σ H Q I h := wpAny_Call_Name_kw (ld_glob I hg hm (PySem.W.callWith_K (h₀ := X.base) I.ok.mod.kin hk (thn (ha.run pos pins s σ H _ I h) fun us s1 ⟨vs, H1, I1, r, q⟩ => ⟨I1.kIn, run_fnSG F hr hb hd (hx σ) I1 r q⟩) he hpl) hdb)
end
section
variable {P : Program} {w : World} {K : Frag} {mg : Str → Option Value} {base : Heap}
theorem FnDG.mono {j k : Nat} {x : Str} {st : Stmt} {ps : List Str} {m : List D → Sto → Res D} (F : FnDG P w K mg base j x st ps m) (h : j ≤ k) : FnDG P w K mg base k x st ps m :=
  let ⟨f, fd, a, b, c, d⟩ := F; ⟨f, fd, a, b, c, d.mono h⟩
theorem fnd_mkG {x : Str} {st : Stmt} {f : Addr} {fd : FuncData} {N ps : List Str} {k np nN : Nat} {mb : MS} (hm : mg x = some (.ref f)) (F : Fun K x x st f fd) (B : Binds K fd ps []) (S : FnScope N ps (defScope st)) (hnp : ps.length = np) (hnN : N.length = nN)
    (hb : ∀ (cdv : Value) (A : Around) (outer : List Env) (s : Shared) (H : Hp) (E : XK), RoomG k (A.deeper (envOfC x (defScope st) s.heap.objs.size f cdv)) →
      DSs (cxOf (L2.CX P w) P w K mg base N x (defScope st) f cdv A outer s H E) (fun cls d _ H => E cls d H) (defBody st) mb) : FnDG P w K mg base (k + 1) x st ps (mDef np nN mb) := by
  subst hnp hnN
  refine ⟨f, fd, hm, F, B, fung_ok F S (fun vs H Q E h => ?_) (fun cdv A outer s H vs Q E hr h => ?_)⟩
  · obtain ⟨ξ, μ, ds, S0, s0, r0, w0⟩ := h
    unfold mDef at w0
    by_cases c : ds.length = ps.length
    · rw [r0.length]; exact c
    · rw [if_neg c] at w0; exact w0.elim
  · obtain ⟨ξ, μ, ds, S0, s0, r0, w0⟩ := h
    obtain ⟨ts, pt, kt⟩ := hb cdv A outer s H E hr
    refine ⟨ts, pt, ?_⟩
    unfold mDef at w0
    by_cases c : ds.length = ps.length
    · rw [if_pos c] at w0
      refine kt ξ μ _ H _ S0 _ (rg_start r0) s0 ?_
      show WS' ⟨K, mg, ξ, w⟩ _ _ _ μ H
      rw [c]
      cases e : mb (ds.map some ++ List.replicate (N.length - ps.length) none) S0 with
      | nx ρ S' => rw [e] at w0; exact fun σ μ' H' u s g => w0 _ μ' H' u s .non
      | rt d S' => rw [e] at w0; exact w0
      | exc c fs ρ S' => rw [e] at w0; exact fun cls dd σ μ' H' u s g x => w0 cls dd μ' H' u s x
      | bk ρ S' => rw [e] at w0; exact w0.elim
      | ct ρ S' => rw [e] at w0; exact w0.elim
      | bad => rw [e] at w0; exact w0.elim
    · rw [if_neg c] at w0; exact w0.elim
theorem law_okG {x sp : Str} {st : Stmt} {f : Addr} {fd : FuncData} {k : Nat} {m : List D → Sto → Res D} (hm : mg x = some (.ref f)) (F : Fun K x x st f fd) (G : FnDG P w K mg base k x st [sp] m) (h : LawTrue m) :
    FnG P w K mg base (L2.CX P w) k f fd [sp] (spLaw K) := by
  obtain ⟨f', fd', hm', F', B', G'⟩ := G
  rw [hm] at hm'
  cases hm'
  have e : fd = fd' := by
    obtain ⟨oc, od, kV, doc, pm, an, cdv, ct, osl, e1, lk, hcd⟩ := F.ex
    obtain ⟨oc', od', kV', doc', pm', an', cdv', ct', osl', e1', lk', hcd'⟩ := F'.ex
    rw [lk] at lk'
    have q := Option.some.inj lk'
    injection q with q1 q2 q3 q4
    injection q3
  subst e
  refine G'.imp fun vs H Q E hh => ?_
  obtain ⟨a, ns, rfl, hS, hl, q⟩ := hh
  obtain ⟨S', e⟩ := h ns hl
  refine ⟨[], [], [.lst (ns.map .int)], [], ⟨rfl, .nil, (fun n a c e _ => nomatch e), (fun a h => nomatch h)⟩, .cons (.lst ?_ (rds_ints ns)) .nil, ?_⟩
  · exact hS.imp (fun z => ⟨z, List.not_mem_nil, List.not_mem_nil⟩) id
  · rw [e]
    intro v μ' H' u s r
    cases r
    exact q H'
end
section
variable {X : Cx} {W : WX} {tg e a b c : Expr} {es : List Expr} {kws : List Keyword} {kw : Keyword} {st : Stmt} {sts ts : List Stmt} {ma mb mc m : ME} {mr mk : MA} {m1 m2 : MS} {pos p p1 p2 p3 kpos : Pos} {nm : Option Str}
theorem d_callG {j k : Nat} {x : Str} {ps : List Str} {f : List D → Sto → Res D} (F : FnDG X.prog X.w X.K X.mg X.base j x st ps f) (hr : RoomG k X.A) (tk : Takes X W) (ha : DA X W (e :: es) mr) (hj : j ≤ k := by decide) (hg : Gl X x := by rfl)
    (hdb : (x == ("__debug__" : Str)) = false := by decide) (he : starEach (e :: es) X.env = (false, eval e X.env) :: starEach es X.env := by rfl) (hpl : (backTo pos (starEach es X.env)).any (·.1) = false := by rfl) :
    DE X W (.Call (.Name x p) (e :: es) [] pos) (mCall f mr) := by
  obtain ⟨fa, fd, hm, Fu, B, G⟩ := F
  obtain ⟨ta, pa, ka⟩ := ha
  refine ⟨_, pe_callSG G (hr.mono hj) hg hm Fu.kp B .nil (fun σ => passAt tk σ) pa hdb he hpl, fun ξ μ σ H ρ S Q g s h => ka ξ μ σ H ρ S _ g s (WR.bind h fun xs S1 vs μ1 H1 u1 s1 r1 h1 => ?_)⟩
  rw [List.append_nil]
  exact ⟨ξ, μ1, xs, S1, s1, r1, h1⟩
end
end Dm
namespace Dm
open PySem L2 PySem.Spec PyProof.Rows
open PySem.W (Frag)
noncomputable def Lone (K : Frag) (a : Addr) (H : Hp) : Prop := ∀ b, H b = none ∨ (b = a ∧ K.lookup a = none ∧ ∃ o xs, H b = some (.frz o (.lst xs)))
section
variable {P : Program} {w : World} {K : Frag} {mg mb : Str → Option Value} {k : Nat} {fa a : Addr} {fd : FuncData} {x : Str} {s : Shared} {vs : List Value} {ns : List Int} {H : Hp}
theorem Lone.free (L : Lone K a H) (KX : K.In s.heap) {b : Addr} {o : Obj} (h : K.lookup b = some o) : H b = none := by
  rcases L b with q | ⟨rfl, q, _⟩
  · exact q
  · rw [q] at h; cases h
theorem Lone.dic (L : Lone K a H) (ha : s.heap.get? a = some { cls := .type "list", data := .seq vs.toArray }) {b : Addr} {o : Obj} {es : Array DictEntry} {n : Nat} (h : s.heap.get? b = some o) (hd : o.data = .dict es n) : H b = none := by
  rcases L b with q | ⟨rfl, _, _⟩
  · exact q
  · rw [ha] at h
    cases h
    cases (show Data.seq vs.toArray _ = Data.dict es n from hd)
theorem Lone.nsp (L : Lone K a H) (ha : s.heap.get? a = some { cls := .type "list", data := .seq vs.toArray }) {b : Addr} {m : Str → Option Value} (h : s.heap.Ns b m) : (hidT s.heap H).Ns b m := by
  obtain ⟨o, es, ep, h1, h2, h3⟩ := h
  exact ⟨o, es, ep, hidT_get h1 (L.dic ha h1 h2), h2, h3⟩
theorem lone_call (L : Lone K a H) (KX : K.In s.heap) (hns : s.heap.Ns mainGlobals mg) (hb : s.heap.Ns builtinsNs mb) (hbb : ∀ x : Str, x ≠ "__name__" → mb x = bootBuiltins x) (hlim : s.heap.NoLimit) (hg : s.gens = #[])
    (ha : s.heap.get? a = some { cls := .type "list", data := .seq vs.toArray }) (hr : RoomG k callerA) (F : ∀ base : Heap, K.In base → base.Ns mainGlobals mg → FnG P w K mg base (L2.CX P w) k fa fd [x] (spLaw K))
    (hbind : ∀ (s : Shared) (u : Value), BindsTo s fd ⟨[u], []⟩ [(x, u)]) (hS : SqL K H a (ns.map V.int)) (hl : ns.length ≤ 63) (hok : HOk P w H s.heap) :
    codeAny (model P w) callerA (.call (.ref fa) ⟨[.ref a], []⟩) (fun r s' => r = .ok (.ret (.bool true)) ∧ OldK s.heap s'.heap ∧ s'.os = s.os ∧ AllBare s'.gens) s := by
  have hK : K.In (hidT s.heap H) := fun b o e => hidT_get (KX b o e) (L.free KX e)
  obtain ⟨mc, l1, l2⟩ := hlim
  have e0 : Env0 P w K mg (hidT s.heap H) callerA [] s H := {
    frames := rfl
    mod := ⟨hK, L.nsp ha hns, ⟨mb, L.nsp ha hb, hbb⟩, ⟨mc, L.nsp ha l1, l2⟩⟩
    bs := fun b o e => of_hidT e
    bsz := Nat.le_of_eq (hidT_size _ _)
    funs := trivial
    frf := fun b hb => absurd (show b ∈ ([] : List Addr) from hb) List.not_mem_nil
    hok := hok
    bare := .of_eq hg }
  have sp : spLaw K [.ref a] H (fun v _ => v = .bl true) fun _ _ _ => False := ⟨a, ns, rfl, hS, hl, fun _ => rfl⟩
  refine codeAny_mono ((F _ hK (L.nsp ha hns)).run callerA [] s H ⟨[.ref a], []⟩ [.ref a] [.ref a] _ _ hr e0 (hbind s (.ref a)) (.cons rfl .nil) sp) ?_
  intro r s' h
  match r, h with
  | .error e, h => exact (cx_no h).elim
  | .ok .next, h => exact False.elim h
  | .ok .brk, h => exact False.elim h
  | .ok .cont, h => exact False.elim h
  | .ok (.ret u), ⟨v, H', os, bare, un, hok', rv, q⟩ =>
    obtain rfl : v = .bl true := q
    obtain rfl : u = Value.bool true := rv
    refine ⟨rfl, OldK.of_keep fun b o e => ?_, os, bare⟩
    rcases L b with q | ⟨_, _, ob, xs, q⟩
    · exact un.keep b o e q (fun z => absurd (show b ∈ ([] : List Addr) from z) List.not_mem_nil) List.not_mem_nil
    · have e1 := (hok b _ q).1
      have e2 := (hok' b _ (un.frzs b ob _ q)).1
      rw [e] at e1
      cases e1
      exact e2
theorem law_callG (KX : K.In s.heap) (hns : s.heap.Ns mainGlobals mg) (hb : s.heap.Ns builtinsNs mb) (hbb : ∀ x : Str, x ≠ "__name__" → mb x = bootBuiltins x) (hlim : s.heap.NoLimit) (hg : s.gens = #[])
    (ha : s.heap.get? a = some { cls := .type "list", data := .seq vs.toArray }) (hi : IntsAre vs ns) (hl : ns.length ≤ 63) (hr : RoomG k callerA) (F : ∀ base : Heap, K.In base → base.Ns mainGlobals mg → FnG P w K mg base (L2.CX P w) k fa fd [x] (spLaw K))
    (hbind : ∀ (s : Shared) (u : Value), BindsTo s fd ⟨[u], []⟩ [(x, u)]) :
    codeAny (model P w) callerA (.call (.ref fa) ⟨[.ref a], []⟩) (fun r s' => r = .ok (.ret (.bool true)) ∧ OldK s.heap s'.heap ∧ s'.os = s.os ∧ AllBare s'.gens) s := by
  have rv := vals_ints hi
  have hz : ns.length ≤ sizeLine := Nat.le_trans hl (by decide)
  by_cases hk : K.lookup a = none
  · let H : Hp := fun b => if b = a then some (.frz { cls := .type "list", data := .seq vs.toArray } (.lst (ns.map V.int))) else none
    have Ha : H a = some (.frz { cls := .type "list", data := .seq vs.toArray } (.lst (ns.map V.int))) := if_pos rfl
    refine lone_call (H := H) (ns := ns) (vs := vs) (fun b => ?_) KX hns hb hbb hlim hg ha hr F hbind (.inl (.inr ⟨_, Ha⟩)) hl fun b u z => ?_
    · by_cases hb : b = a
      · subst hb
        exact .inr ⟨rfl, hk, _, _, Ha⟩
      · exact .inl (if_neg hb)
    · by_cases hb : b = a
      · subst hb
        rw [Ha] at z
        cases z
        exact ⟨ha, by rw [List.length_map]; exact hz, vs, _, rv, ha⟩
      · rw [show H b = none from if_neg hb] at z
        cases z
  · obtain ⟨o, ho⟩ := Option.ne_none_iff_exists'.mp hk
    have e := KX a o ho
    rw [ha] at e
    cases e
    refine lone_call (H := fun _ => none) (ns := ns) (vs := vs) (fun b => .inl rfl) KX hns hb hbb hlim hg ha hr F hbind ?_ hl fun b u z => nomatch z
    exact .inr ⟨_, vs.toArray, _, ho, rfl, rfl, rfl, by rw [List.size_toArray, hi.length]; exact hz, by simpa using rv⟩
end
theorem walkG_of {l : PySem.W.OpenLaw} {k : Nat} {q : Program} {loose : List Str} {XP : (Str → Option Value) → Heap → Prop} {YP : World → Heap → Prop} {d : DefRec} {K : Params → Frag} {x : Str}
    (hn : l.most = some 63) (hdf : d.params.defaults = []) (hr : Room k callerA) (hY : ∀ (w : World) (h : Heap), YP w h → (K w.params).In h)
    (F : ∀ (w : World) (mg : Str → Option Value) (fa : Addr) (h : Heap), (K w.params).In h → h.Ns mainGlobals mg → mg d.name = some (.ref fa) →
      ∃ fd : FuncData, (∀ (s : Shared) (u : Value), BindsTo s fd ⟨[u], []⟩ [(x, u)]) ∧
        ∀ base : Heap, (K w.params).In base → base.Ns mainGlobals mg → FnG l.prog w (K w.params) mg base (L2.CX l.prog w) k fa fd [x] (spLaw (K w.params))) :
    PySem.W.WalkO q loose XP YP l.row.toRowW d [] (fun f vs => PySem.call f vs) := by
  refine Att.attach_call hn hdf fun w s₀ s₁ mg mb fa o pm cd doc a vs ns G Y ho hd hcd hmg hobj hints hlen hg => ?_
  obtain ⟨fd, hb, hF⟩ := F w mg fa _ (hY w _ Y) G.T.g hmg
  exact law_callG (hY w _ Y) G.T.g G.T.b G.T.builtins G.T.nolimit hg hobj hints hlen (roomG_top hr) hF hb
end Dm
namespace Dm
open PySem L2 PySem.Spec PyProof.Rows
open PySem.W (Frag)
noncomputable def reprOk (d : PyData) : Prop := d.showable = true ∧ d.hasDict = false ∧ d.shown.length ≤ sizeLine ∧ d.depth ≤ 64
end Dm
namespace PySem
open Sem (wp)
open Builtin Builtin.Str Builtin.BaseException Builtin.Exceptions
open PySem.W (Looks Frag findIn subIn looks_findIn looks_subIn)
namespace XR
section
variable {prog : Program} {w : World} {M : Model} {A : Around} {E : Value → Shared → Prop} {s : Shared} {K : Frag} {C e t0 : Addr}
theorem typeNameOfWhole_C {oC : Obj} {cd : ClassData} {Q : String → Shared → Prop} (x : ExcC K C e t0 s.heap) (hC : s.heap.get? C = some oC) (hd : oC.data = .cls cd) (hq : Q cd.name.toString s) : wpAny M A (typeNameOfWhole (.ref e)) Q E s := by
  unfold typeNameOfWhole shownTypeOf
  refine wpAny_bind (wpAny_bind (x.LT.here ?_))
  have : (Value.ref C == Value.type "builtin_function_or_method") = false := rfl
  simp only [this, Bool.false_eq_true, if_false]
  refine wpAny_pure ?_
  show wpAny M A (do return (← classData C).name.toString) Q E s
  unfold classData
  repeat (first | with_reducible refine wpAny_loadPart_at hC ?_ | with_reducible refine wpAny_load_at hC ?_ | simp only [hd] | wp_step)
  exact hq
theorem bexcReprAt_C (b : Nat) {m : Str} {tk : Tok} {oC : Obj} {cd : ClassData} {Q : Fin → Shared → Prop} (x : ExcC K C e t0 s.heap) (ht : s.heap.TupAt t0 [.str m tk]) (hC : s.heap.get? C = some oC) (hd : oC.data = .cls cd)
    (hq : Q (.done (.ret (.str (excReprHead cd.name.toString ++ "(" ++ reprText m ++ ")") (s.toks + 1)))) { s with toks := s.toks + 1 + 1 }) (hsz : b + (excReprHead cd.name.toString ++ "(" ++ reprText m ++ ")").length ≤ sizeLine) :
    wpAny (model prog w) A (Builtin.bexcReprAt b ⟨[.ref e], []⟩) Q E s := by
  have e1 : b + (Str.ofString ((cd.name.toString.cutAt '.').getLastD "") ++ Str.ofString "(" ++ reprText m ++ Str.ofString ")").length ≤ sizeLine := hsz
  have hsz2 : (Str.ofString ((cd.name.toString.cutAt '.').getLastD "") ++ Str.ofString "(" ++ reprText m ++ Str.ofString ")").length ≤ sizeLine := Nat.le_trans (Nat.le_add_left _ b) e1
  have eP : (Str.ofString "(").length = 1 := by rw [ofString_length]; rfl
  rw [strLen_append, strLen_append, strLen_append, eP] at e1
  have hsz1 : (reprText m).length ≤ sizeLine := by omega
  have hpile : b + ((Str.ofString ((cd.name.toString.cutAt '.').getLastD "")).length + 1) ≤ sizeLine := by omega
  unfold Builtin.bexcReprAt
  repeat (first | with_reducible refine typeNameOfWhole_C x hC hd ?_ | with_reducible refine bexcArgs_C x ht ?_ | rw [pyReprUnder_leaf (v := .str m tk) hpile (by intro a; nofun)] | with_reducible refine wpAny_pyRepr_str ?_ | wp_step)
  exact hq
theorem reprK_exc {h₀ : Heap} {o oC : Obj} {vs : Array Value} {cd : ClassData} {m : Str} {tk : Tok} {as : List Addr} {d : Nat} (hK : K.In h₀) (ho : h₀.get? e = some o) (oc : o.cls = .ref C) (od : o.data = .fields vs) (v0 : vs[0]? = some (.ref t0)) (ht : h₀.TupAt t0 [.str m tk])
    (hC : h₀.get? C = some oC) (hd : oC.data = .cls cd) (hr : findIn K (.ref C) "__repr__" = some (some (.builtin "BaseException.__repr__"))) (hB : subIn K (.ref C) (.type "BaseException") = some true) (d2 : 4 ≤ d) :
    ReprK prog w as h₀ d (.ref e) (excReprHead cd.name.toString ++ "(" ++ reprText m ++ ")") := by
  intro base hb A g E s Q hg hcl hu hk hQ
  have X : K.In s.heap := hK.keeps hk
  have x : ExcC K C e t0 s.heap := ⟨X, o, vs, hk _ _ ho, oc, od, v0⟩
  have ht' : s.heap.TupAt t0 [.str m tk] := by
    obtain ⟨ot, k, h1, h2, h3⟩ := ht
    exact ⟨ot, k, hk _ _ h1, h2, h3⟩
  have hC' := hk _ _ hC
  have hf : Looks (model prog w) s.heap (typeLookup (.ref C) "__repr__") (some (.builtin "BaseException.__repr__")) := looks_findIn X hr
  refine wpAny_pyReprUnder_ref (by omega) ?_
  unfold pyReprObjUnder pyReprObjBy
  refine wpAny_bind (wpAny_cRoomFor (by omega) ?_)
  refine wpAny_bind (wpAny_bind (x.LT.here (hf.here ?_)))
  show wpAny _ _ (if (some (Value.builtin "BaseException.__repr__")).isNone = true then _ else _) _ _ _
  rw [if_neg (by simp)]
  have hbind : bindSpecial (.builtin "BaseException.__repr__") (.ref e) = pure (.builtin "BaseException.__repr__", [.ref e]) := F.excStr_Exception.repr.bind _
  have last : wpAny (model prog w) A (call (.builtin "BaseException.__repr__.under") [.ref e, rawInt base]) (fun v s' => (∃ u, v = .str (excReprHead cd.name.toString ++ "(" ++ reprText m ++ ")") u) ∧ ∃ tk, s' = { s with toks := tk }) E s := by
    refine wpAny_call (codeAny_call_builtin F.plain_bexc_repr_under F.entry_bexc_repr_under ?_)
    rw [F.check_bexc_repr_under]
    refine wpAny_pure ?_
    show wpAny _ _ (reprTwin "BaseException.__repr__" bexcReprAt ⟨[.ref e, rawInt base], []⟩) _ _ _
    rw [reprTwin_eq]
    refine wpAny_bind (@PySem.W.check_slot (model prog w) _ _ s "BaseException.__repr__" "BaseException" "__repr__" (.ref e) [] [] _ (by decide +kernel) (by decide +kernel) (x.LI hB) (F.args_bexc_repr _) ?_)
    refine bexcReprAt_C base x ht' hC' hd ?_ hb
    exact ⟨⟨_, rfl⟩, _, rfl⟩
  refine wpAny_bind ?_
  simp only [callSpecialIfBoundBy?, bindSpecialIfBound?]
  refine wpAny_holding (wpAny_bind (wpAny_bind (wpAny_bind (x.LT.here (hf.here ?_)))))
  simp only [hbind]
  have fin : wpAny (model prog w) A (call (.builtin "BaseException.__repr__.under") [.ref e, rawInt base] >>= fun v => pure (some v)) (fun a s' =>
      wpAny (model prog w) A (match a with
        | some r => do
          if ← isInstance r (.type "str") then pure r
          else raiseErrorMade "TypeError" s!"__repr__ returned non-string (type {← typeNameOf r})"
        | none => unsupported "repr:special-get-raises") (fun v s' => ∃ x u, v = .str x u ∧ Q x s') E s') E s := by
    refine wpAny_bind (wpAny_mono last (fun v s' hv => wpAny_pure ?_) fun _ _ x => x)
    obtain ⟨⟨u, rfl⟩, t, rfl⟩ := hv
    exact wpAny_bind (wpAny_isInstance (T := "str") (b := true) rfl isSubtype_str_str (wpAny_pure ⟨_, _, rfl, hQ s.heap t (fun _ _ h => h)⟩))
  refine wpAny_bind (wpAny_askSetting (wpAny_ite ?_))
  split
  · exact wpAny_bind (wpAny_pure (wpAny_pure fin))
  · exact wpAny_tryCatch (wpAny_bind (wpAny_pure (wpAny_pure fin)))
theorem call_bexcRepr_C {oC : Obj} {cd : ClassData} {m : Str} {tk : Tok} {Q : Value → Shared → Prop} (x : ExcC K C e t0 s.heap) (ht : s.heap.TupAt t0 [.str m tk])
    (hC : s.heap.get? C = some oC) (hd : oC.data = .cls cd) (hB : subIn K (.ref C) (.type "BaseException") = some true)
    (hsz : (excReprHead cd.name.toString ++ "(" ++ reprText m ++ ")").length ≤ sizeLine) (hQ : ∀ u tk, Q (.str (excReprHead cd.name.toString ++ "(" ++ reprText m ++ ")") u) { s with toks := tk }) :
    wpAny (model prog w) A (call (.builtin "BaseException.__repr__") [.ref e]) Q E s := by
  refine wpAny_call (codeAny_call_builtin F.excStr_Exception.repr.plain F.entry_bexc_repr (@PySem.W.check_slot (model prog w) _ _ s "BaseException.__repr__" "BaseException" "__repr__" (.ref e) [] [] _ (by decide +kernel) (by decide +kernel) (x.LI hB) (F.args_bexc_repr _) ?_))
  exact bexcReprAt_C 0 x ht hC hd (hQ _ _) (by rw [Nat.zero_add]; exact hsz)
theorem call_repr_exc {o oC : Obj} {vs : Array Value} {cd : ClassData} {m : Str} {tk : Tok} {Q : Value → Shared → Prop} (hK : K.In s.heap) (ho : s.heap.get? e = some o) (oc : o.cls = .ref C) (od : o.data = .fields vs) (v0 : vs[0]? = some (.ref t0)) (ht : s.heap.TupAt t0 [.str m tk])
    (hC : s.heap.get? C = some oC) (hd : oC.data = .cls cd) (hr : findIn K (.ref C) "__repr__" = some (some (.builtin "BaseException.__repr__"))) (hB : subIn K (.ref C) (.type "BaseException") = some true)
    (hu : A.units + 1 < cLine) (hsz : (excReprHead cd.name.toString ++ "(" ++ reprText m ++ ")").length ≤ sizeLine) (hQ : ∀ u tk, Q (.str (excReprHead cd.name.toString ++ "(" ++ reprText m ++ ")") u) { s with toks := tk }) :
    wpAny (model prog w) A (call (.builtin "repr") [.ref e]) Q E s := by
  have x : ExcC K C e t0 s.heap := ⟨hK, o, vs, ho, oc, od, v0⟩
  have hf : Looks (model prog w) s.heap (typeLookup (.ref C) "__repr__") (some (.builtin "BaseException.__repr__")) := looks_findIn hK hr
  have hbind : bindSpecial (.builtin "BaseException.__repr__") (.ref e) = pure (.builtin "BaseException.__repr__", [.ref e]) := F.excStr_Exception.repr.bind _
  refine Calls.call_function_entry F.kind_repr F.plain_repr F.entry_repr (F.args_repr1 _) ?_
  unfold Builtin.«repr»
  refine wpAny_bind (m := oneArg "repr" _) (wpAny_pure ?_)
  refine wpAny_bind (m := cRoomFor _ _) (wpAny_cRoomFor (by show A.units + 1 < cLine; exact hu) ?_)
  refine wpAny_bind (wpAny_bind (x.LT.here (hf.here ?_)))
  show wpAny _ _ (if (some (Value.builtin "BaseException.__repr__")).isNone = true then _ else _) _ _ _
  rw [if_neg (by simp)]
  refine wpAny_bind ?_
  simp only [callSpecialIfBound?, bindSpecialIfBound?]
  refine wpAny_holding (wpAny_bind (wpAny_bind (wpAny_bind (x.LT.here (hf.here ?_)))))
  simp only [hbind]
  refine wpAny_bind (wpAny_askSetting (wpAny_ite ?_))
  split
  · refine wpAny_bind (wpAny_pure (wpAny_pure ?_))
    refine wpAny_bind (call_bexcRepr_C x ht hC hd hB hsz fun u tk => wpAny_pure ?_)
    exact wpAny_bind (wpAny_isInstance (T := "str") (b := true) rfl isSubtype_str_str (wpAny_pure ⟨_, rfl, hQ _ _⟩))
  · refine wpAny_tryCatch (wpAny_bind (wpAny_pure (wpAny_pure ?_)))
    refine wpAny_bind (call_bexcRepr_C x ht hC hd hB hsz fun u tk => wpAny_pure ?_)
    exact wpAny_bind (wpAny_isInstance (T := "str") (b := true) rfl isSubtype_str_str (wpAny_pure ⟨_, rfl, hQ _ _⟩))
end
end XR
end PySem
namespace PySem
open PySem.W (Looks Frag findIn subIn looks_findIn looks_subIn)
namespace XR
noncomputable def ExcTx (K : Frag) (h : Heap) (e : Addr) (txt : Str) : Prop := ∃ (C t0 : Addr) (o oC : Obj) (vs : Array Value) (cd : ClassData) (m : Str) (tk : Tok), K.In h ∧ h.get? e = some o ∧ o.cls = .ref C ∧ o.data = .fields vs ∧ vs[0]? = some (.ref t0) ∧ h.TupAt t0 [.str m tk] ∧
  h.get? C = some oC ∧ oC.data = .cls cd ∧ findIn K (.ref C) "__repr__" = some (some (.builtin "BaseException.__repr__")) ∧ subIn K (.ref C) (.type "BaseException") = some true ∧ txt = excReprHead cd.name.toString ++ "(" ++ reprText m ++ ")"
mutual
inductive Rx (K : Frag) (h : Heap) : Value → Nat → Str → Prop
  | non : Rx K h .none 4 "None"
  | bl (b : Bool) : Rx K h (.bool b) 4 (if b then "True" else "False")
  | int (i : Int) (t : Tok) : i.natAbs.log2 < 1920 → Rx K h (.int i t) 4 (toString i)
  | str (x : Str) (t : Tok) : (reprText x).length ≤ sizeLine → Rx K h (.str x t) 4 (reprText x)
  | exc {e : Addr} {txt : Str} : ExcTx K h e txt → Rx K h (.ref e) 4 txt
  | list {a : Addr} {o : Obj} {vs : Array Value} {n d : Nat} {ts : List Str} : h.get? a = some o → o.cls = .type "list" → o.data = .seq vs n → RxA K h vs.toList d ts → Rx K h (.ref a) (d + 1) (listText ts)
  | tuple {a : Addr} {o : Obj} {vs : Array Value} {n d : Nat} {ts : List Str} : h.get? a = some o → o.cls = .type "tuple" → o.data = .seq vs n → RxA K h vs.toList d ts → Rx K h (.ref a) (d + 1) (tupleText ts)
inductive RxA (K : Frag) (h : Heap) : List Value → Nat → List Str → Prop
  | nil : RxA K h [] 4 []
  | cons {v : Value} {vs : List Value} {n d : Nat} {t : Str} {ts : List Str} : Rx K h v n t → RxA K h vs d ts → RxA K h (v :: vs) (max n d) (t :: ts)
end
section
variable {prog : Program} {w : World} {K : Frag} {h : Heap}
mutual
theorem Rx.det : ∀ {v : Value} {n n' : Nat} {t t' : Str}, Rx K h v n t → Rx K h v n' t' → n = n'
  | _, _, _, _, _, .non, r => by cases r; rfl
  | _, _, _, _, _, .bl b, r => by cases r; rfl
  | _, _, _, _, _, .int _ _ _, r => by cases r; rfl
  | _, _, _, _, _, .str _ _ _, r => by cases r; rfl
  | _, _, _, _, _, .exc x, r => by
    obtain ⟨C, t0, o, oC, vs, cd, m, tk, k, e1, e2, _⟩ := x
    cases r with
    | exc _ => rfl
    | list a b c d =>
      rw [e1] at a; cases a
      rw [e2] at b; cases b
    | tuple a b c d =>
      rw [e1] at a; cases a
      rw [e2] at b; cases b
  | _, _, _, _, _, .list a b c d, r => by
    cases r with
    | exc x =>
      obtain ⟨C, t0, o, oC, vs, cd, m, tk, k, e1, e2, _⟩ := x
      rw [e1] at a; cases a
      rw [e2] at b; cases b
    | list a' b' c' d' =>
      rw [a] at a'; cases a'
      rw [c] at c'; cases c'
      rw [RxA.det d d']
    | tuple a' b' c' d' =>
      rw [a] at a'; cases a'
      rw [b] at b'; simp at b'
  | _, _, _, _, _, .tuple a b c d, r => by
    cases r with
    | exc x =>
      obtain ⟨C, t0, o, oC, vs, cd, m, tk, k, e1, e2, _⟩ := x
      rw [e1] at a; cases a
      rw [e2] at b; cases b
    | list a' b' c' d' =>
      rw [a] at a'; cases a'
      rw [b] at b'; simp at b'
    | tuple a' b' c' d' =>
      rw [a] at a'; cases a'
      rw [c] at c'; cases c'
      rw [RxA.det d d']
theorem RxA.det : ∀ {vs : List Value} {n n' : Nat} {ts ts' : List Str}, RxA K h vs n ts → RxA K h vs n' ts' → n = n'
  | _, _, _, _, _, .nil, r => by cases r; rfl
  | _, _, _, _, _, .cons x l, r => by
    cases r with
    | cons x' l' => rw [Rx.det x x', RxA.det l l']
end
noncomputable def AtMostX (K : Frag) (h : Heap) (n : Nat) (bs : List Addr) : Prop := ∀ b ∈ bs, ∃ m t, Rx K h (.ref b) m t ∧ m ≤ n
theorem AtMostX.mono {n m : Nat} {bs : List Addr} (x : AtMostX K h n bs) (hn : n ≤ m) : AtMostX K h m bs := fun b hb =>
  let ⟨m', t, r, hd⟩ := x b hb
  ⟨m', t, r, Nat.le_trans hd hn⟩
theorem AtMostX.append {n : Nat} {bs cs : List Addr} (x : AtMostX K h n bs) (y : AtMostX K h n cs) : AtMostX K h n (bs ++ cs) := fun b hb => (List.mem_append.mp hb).elim (x b) (y b)
theorem AtMostX.not {a : Addr} {n d : Nat} {t : Str} {bs : List Addr} (r : Rx K h (.ref a) n t) (hd : d < n) (x : AtMostX K h d bs) : a ∉ bs := fun hm => by
  obtain ⟨m, t', r', hm'⟩ := x a hm
  have := r.det r'
  omega
theorem AtMostX.cons {a : Addr} {n d : Nat} {t : Str} {bs : List Addr} (r : Rx K h (.ref a) n t) (hd : d ≤ n) (x : AtMostX K h d bs) : AtMostX K h n (a :: bs) := fun b hb => by
  rcases List.mem_cons.mp hb with rfl | hb
  · exact ⟨n, t, r, Nat.le_refl _⟩
  · exact x.mono hd b hb
mutual
theorem Rx.reprK : ∀ {v : Value} {n : Nat} {t : Str}, Rx K h v n t → ∃ bs, AtMostX K h n bs ∧ ReprK prog w bs h n v t
  | _, _, _, .non => ⟨[], (fun _ h => nomatch h), .of_is ReprIs.none _ _ _⟩
  | _, _, _, .bl b => ⟨[], (fun _ h => nomatch h), .of_is (ReprIs.bool b) _ _ _⟩
  | _, _, _, .int i t z => ⟨[], (fun _ h => nomatch h), .of_is (ReprIs.int t z) _ _ _⟩
  | _, _, _, .str x t z => ⟨[], (fun _ h => nomatch h), .of_is (ReprIs.str x t z) _ _ _⟩
  | _, _, _, .exc x => by
    obtain ⟨C, t0, o, oC, vs, cd, m, tk, k, e1, e2, e3, e4, e5, e6, e7, e8, e9, rfl⟩ := x
    exact ⟨[], (fun _ h => nomatch h), reprK_exc k e1 e2 e3 e4 e5 e6 e7 e8 e9 (Nat.le_refl _)⟩
  | _, _, _, .list (a := a) (vs := vs) (d := d) e1 e2 e3 q => by
    obtain ⟨bs, hb, hk⟩ := RxA.reprK q
    have r : Rx K h (.ref a) _ _ := .list e1 e2 e3 q
    refine ⟨a :: bs, AtMostX.cons r (Nat.le_succ _) hb, ?_⟩
    have hna : a ∉ bs := AtMostX.not r (Nat.lt_succ_self _) hb
    obtain ⟨l⟩ := vs
    cases l with
    | nil =>
      have q' : RxA K h [] d _ := q
      cases q'
      rw [listText_nil]
      exact ReprK.listEmpty e1 e2 e3
    | cons x l => exact ReprK.list e1 e2 e3 hna (by simpa using hk.length_eq) (fun i y e => hk.item i y (by simpa using e))
  | _, _, _, .tuple (a := a) e1 e2 e3 q => by
    obtain ⟨bs, hb, hk⟩ := RxA.reprK q
    have r : Rx K h (.ref a) _ _ := .tuple e1 e2 e3 q
    exact ⟨a :: bs, AtMostX.cons r (Nat.le_succ _) hb, ReprK.tuple e1 e2 e3 (AtMostX.not r (Nat.lt_succ_self _) hb) hk⟩
theorem RxA.reprK : ∀ {vs : List Value} {n : Nat} {ts : List Str}, RxA K h vs n ts → ∃ bs, AtMostX K h n bs ∧ ReprAllK prog w bs h n vs ts
  | _, _, _, .nil => ⟨[], (fun _ h => nomatch h), .nil⟩
  | _, _, _, .cons x l => by
    obtain ⟨b1, h1, k1⟩ := Rx.reprK x
    obtain ⟨b2, h2, k2⟩ := RxA.reprK l
    exact ⟨b1 ++ b2, (h1.mono (Nat.le_max_left _ _)).append (h2.mono (Nat.le_max_right _ _)),
      .cons ((k1.more fun b hb => List.mem_append_left _ hb).level_le (Nat.le_max_left _ _)) (k2.more_le (fun b hb => List.mem_append_right _ hb) (Nat.le_max_right _ _))⟩
end
theorem call_repr_rx {A : Around} {E : Value → Shared → Prop} {s : Shared} {Q : Value → Shared → Prop} {v : Value} {n : Nat} {t : Str} (r : Rx K s.heap v n t) (hg : A.guards = some []) (hu : A.units + (n + 1) < cLine) (hsz : t.length ≤ sizeLine)
    (hQ : ∀ h' u tk, (∀ b o, s.heap.get? b = some o → h'.get? b = some o) → Q (.str t u) { s with heap := h', toks := tk }) : wpAny (model prog w) A (call (.builtin "repr") [v]) Q E s := by
  cases r with
  | non => exact PySem.P.repr_of_none (hQ s.heap _ _ fun _ _ e => e)
  | bl b => exact PySem.P.repr_of_bool (hQ s.heap _ _ fun _ _ e => e)
  | int i t z => exact PySem.P.repr_of_int z (hQ s.heap _ _ fun _ _ e => e)
  | str x t z => exact PySem.P.repr_of_str (hQ s.heap _ _ fun _ _ e => e) z
  | exc x =>
    obtain ⟨C, t0, o, oC, vs, cd, m, tk, k, e1, e2, e3, e4, e5, e6, e7, e8, e9, rfl⟩ := x
    exact call_repr_exc k e1 e2 e3 e4 e5 e6 e7 e8 e9 (by omega) hsz fun u tk => hQ s.heap u tk fun _ _ e => e
  | @list a o vs _ d ts e1 e2 e3 q =>
    obtain ⟨bs, hb, hk⟩ := RxA.reprK (prog := prog) (w := w) q
    have r : Rx K s.heap (.ref a) _ _ := .list e1 e2 e3 q
    have hna : a ∉ bs := AtMostX.not r (Nat.lt_succ_self _) hb
    refine call_repr_slot (by omega) ⟨o, e1, e2⟩ F.slot_list_repr.toG ?_
    obtain ⟨l⟩ := vs
    cases l with
    | nil =>
      have q' : RxA K s.heap [] d ts := q
      cases q'
      rw [listText_nil] at hQ
      exact call_list_repr_empty ⟨o, e1, e2⟩ e1 e3 ⟨_, _, rfl, hQ s.heap _ _ fun _ _ e => e⟩
    | cons x l => exact call_list_reprK e1 e2 e3 hna (by simpa using hk.length_eq) (fun i y e => hk.item i y (by simpa using e)) hg (fun b _ => Clear.nil b) (by show A.units + 1 + (d + 1) < cLine; omega) (fun _ _ e => e) (fun h' u tk k => ⟨_, _, rfl, hQ h' u tk k⟩) hsz
  | @tuple a o vs _ d ts e1 e2 e3 q =>
    obtain ⟨bs, hb, hk⟩ := RxA.reprK (prog := prog) (w := w) q
    have r : Rx K s.heap (.ref a) _ _ := .tuple e1 e2 e3 q
    have hna : a ∉ bs := AtMostX.not r (Nat.lt_succ_self _) hb
    refine call_repr_slot (by omega) ⟨o, e1, e2⟩ F.slot_tuple_repr ?_
    exact call_tuple_reprK e1 e2 e3 hna hk hg (fun b _ => Clear.nil b) (by show A.units + 1 + (d + 1) < cLine; omega) (fun _ _ e => e) (fun h' u tk k => ⟨_, _, rfl, hQ h' u tk k⟩) hsz
end
end XR
end PySem
namespace Dm
open PySem L2 PySem.Spec PyProof.Rows
open PySem.W (Frag)
noncomputable def xSub (c h : Str) : Bool := c == h || h == "HourError" || h == "ValueError" || h == "Exception"
noncomputable def intFs0 : List (Str × D) → Option (List (Str × Int))
  | [] => some []
  | (f, .int i) :: r => (intFs0 r).map fun l => (f, i) :: l
  | _ :: _ => none
noncomputable def intFsOf (fs : List (Str × D)) : Option (List (Str × Int)) := match intFs0 fs with
  | some l => if isMkd l = true then none else some l
  | none => none
noncomputable def setI (oi : Option Nat) (ρ : Rho) (d : D) : Rho := match oi with
  | none => ρ
  | some i => ρ.set i (some d)
noncomputable def clearI (oi : Option Nat) (ρ : Rho) : Rho := match oi with
  | none => ρ
  | some i => ρ.set i none
noncomputable def dropI (oi : Option Nat) : Out → Out
  | .nx ρ S => .nx (clearI oi ρ) S
  | .rt d S => .rt d S
  | .bk ρ S => .bk (clearI oi ρ) S
  | .ct ρ S => .ct (clearI oi ρ) S
  | .exc _ _ _ _ => .bad
  | .bad => .bad
noncomputable def catchD (c : Str) (fs : List (Str × D)) (ns : List (Str × Int)) : List (Str × Option Nat × MS) → Rho → Sto → Out
  | [], ρ, S => .exc c fs ρ S
  | (h, oi, ms) :: r, ρ, S => if xSub c h = true then dropI oi (ms (setI oi ρ (.exn c ns)) S) else catchD c fs ns r ρ S
noncomputable def mTry (cs : List Str) (hs : List (Str × Option Nat × MS)) (mb : MS) : MS := fun ρ S => match mb ρ S with
  | .exc c fs ρ1 S1 => match intFsOf fs with
    | some ns => if c ∈ cs then catchD c fs ns hs ρ1 S1 else .bad
    | none => .bad
  | o => o
structure PlOk (K : Frag) (mg : Str → Option Value) (cs : List Str) : Prop where
  ex : ∀ c, c ∈ cs → ∃ cls, mg c = some cls ∧ PlX K cls
end Dm
namespace Dm
open PySem L2 PySem.Spec PyProof.Rows
open PySem.W (Frag)
structure HiOk (K : Frag) (mg : Str → Option Value) (h : Str) : Prop where
  ex : ∃ (D : Addr) (mc : Value), mg h = some (.ref D) ∧ PySem.W.readsIn K D mc = true ∧ PySem.W.specialIn K (.ref D) "__getattribute__" = some (some (.builtin "type.__getattribute__")) ∧ PySem.W.findCls K (.ref D) mc "__init__" = some (.val (.builtin "ValueError.__init__"))
noncomputable def mRaiseX (c : Str) (ns : List Str) (ma : MA) : MS := fun ρ S => ofRes (ma ρ S) ρ fun ds S1 => if ds.length = ns.length then .exc c (ns.zip ds).reverse ρ S1 else .bad
section
variable {X : Cx} {W : WX} {e : Expr} {es : List Expr} {mr : MA} {m : ME} {p p1 p2 pos pos2 : Pos}
noncomputable def gXf (c f : Str) (_ : Sto) : D → Option D
  | .exn c' fs => if isMkd fs then none else if c' = c then (fs.lookup f).map D.int else none
  | _ => none
end
noncomputable def newFs (ns : List Str) (ds : List D) : List (Str × Int) := (intFsOf (ns.zip ds).reverse).getD []
noncomputable def mNewX (c : Str) (ns : List Str) (ma : MA) : ME := fun ρ S => (ma ρ S).bind fun ds S1 => if ds.length = ns.length then .ok (.exn c (newFs ns ds)) S1 else .bad
noncomputable def mNew0 (c : Str) : ME := fun _ S => .ok (.exn c []) S
section
variable {S : Sto} {ρ : Rho} {E : EX} {Q : D → Sto → Prop}
@[simp] theorem does_new0 {c : Str} : (mNew0 c ρ S).DoesE E Q = Q (.exn c []) S := rfl
@[simp] theorem does_newX {c : Str} {ns : List Str} {ma : MA} : (mNewX c ns ma ρ S).DoesE E Q = (ma ρ S).DoesE E fun ds S1 => ds.length = ns.length ∧ Q (.exn c (newFs ns ds)) S1 := by
  unfold mNewX
  rw [does_bind]; congr 1; funext ds S1
  by_cases h : ds.length = ns.length
  · rw [if_pos h]; simp [h]
  · rw [if_neg h]; simp [h, Res.DoesE]
end
end Dm
namespace PySem
end PySem
namespace Dm
open PySem L2 PySem.Spec PyProof.Rows
open PySem.W (Frag)
noncomputable def mNewXK (c : Str) (ns : List Str) (q : Nat) (perm : List Nat) (ma : MA) : ME := fun ρ S => (ma ρ S).bind fun zs S1 => if zs.length = q then (if (perm.filterMap (zs[·]?)).length = ns.length then .ok (.exn c (newFs ns (perm.filterMap (zs[·]?)))) S1 else .bad) else .bad
section
variable {S : Sto} {ρ : Rho} {E : EX} {Q : D → Sto → Prop}
@[simp] theorem does_newXK {c : Str} {ns : List Str} {q : Nat} {perm : List Nat} {ma : MA} : (mNewXK c ns q perm ma ρ S).DoesE E Q = (ma ρ S).DoesE E fun zs S1 => zs.length = q ∧ (perm.filterMap (zs[·]?)).length = ns.length ∧ Q (.exn c (newFs ns (perm.filterMap (zs[·]?)))) S1 := by
  unfold mNewXK
  rw [does_bind]; congr 1; funext zs S1
  by_cases h : zs.length = q
  · rw [if_pos h]
    by_cases h2 : (perm.filterMap (zs[·]?)).length = ns.length
    · rw [if_pos h2]; simp [h, h2]
    · rw [if_neg h2]; simp [h, h2, Res.DoesE]
  · rw [if_neg h]; simp [h, Res.DoesE]
end
noncomputable def mNewV (c : Str) (me : ME) : ME := fun ρ S => (me ρ S).bind fun _ S1 => .ok (.exn c []) S1
section
variable {S : Sto} {ρ : Rho} {E : EX} {Q : D → Sto → Prop}
@[simp] theorem does_newV {c : Str} {m : ME} : (mNewV c m ρ S).DoesE E Q = (m ρ S).DoesE E fun _ S1 => Q (.exn c []) S1 := by
  unfold mNewV
  rw [does_bind]; rfl
end
end Dm
namespace PySem.HandSPX
open PySem
section
variable {prog : Program} {w : World} {M : Model} {A : Around} {B newId initId : String} {bmB : List Value} {h : Heap} {g : Array GenState} {d : Drawn} {t : Nat} {os : OsState} {C : Addr} {nm q : Str} {N : Addr} {bs bm : List Value} {hdct : Bool} {R : Result → Shared → Prop}
theorem init_baseT {sn sub ab col dd k0 k1 k2 k3 k5} (F : ExcBaseFacts B newId initId bmB) (hT : ∀ X : String, bm.contains (.type X) = bmB.contains (.type X)) {e t0 : Addr} {rest : List Value}
    (hC : h.get? C = some (excClassObj nm q C N bs bm hdct sn sub ab col dd k0 k1 k2 k3 k5 newId)) (he : h.get? e = some (excO C t0)) (hrest : rest.length ≤ sizeLine)
    (hq : ∀ h', (∀ b o, b ≠ e → h.get? b = some o → h'.get? b = some o) → h'.get? e = some (excO C h.objs.size) → h'.get? h.objs.size = some { cls := .type "tuple", data := .seq rest.toArray } → R (.ok (.ret .none)) ⟨h', g, d, t, os⟩) :
    codeAny (model prog w) A (.call (.builtin initId) ⟨.ref e :: rest, []⟩) R ⟨h, g, d, t, os⟩ := by
  have hlt : e < h.objs.size := Heap.lt_size he
  refine codeAny_call_builtin F.init.plain F.initEntry (check_init_own F hT hC he rfl ?_)
  wp_walk
  refine hq _ (fun b o hb ho => ?_) ?_ ?_
  · rw [Heap.get?_update_other _ _ (Ne.symm hb)]
    exact Heap.get?_push_of_some _ ho
  · rw [Heap.get?_update_self _ (Heap.get?_push_of_some _ he) rfl]
    rfl
  · rw [Heap.get?_update_other _ _ (Nat.ne_of_lt hlt)]
    heap_get
end
end PySem.HandSPX
namespace Dm
open PySem L2 PySem.Spec PyProof.Rows
open PySem.W (Frag)
noncomputable def exoT (e C t : Addr) (d : Option Addr) : HO := .ext fun h => h.get? e = some ({ cls := .ref C, dict := d, data := .fields #[.ref t, .none, .none, .none, .bool false, .none] } : Obj)
theorem exoT_own {e C t x : Addr} {d : Option Addr} : exoT e C t d ≠ .own x := fun z => by
  have z' : HO.ext _ = HO.own x := z
  cases z'
theorem exoT_tup {e C t : Addr} {d : Option Addr} {xs : List V} : exoT e C t d ≠ .tup xs := fun z => by
  have z' : HO.ext _ = HO.tup xs := z
  cases z'
theorem exoT_frz {e C t : Addr} {d : Option Addr} {o : Obj} {u : HO} : exoT e C t d ≠ .frz o u := fun z => by
  have z' : HO.ext _ = HO.frz o u := z
  cases z'
theorem exoT_tbl {e C t : Addr} {d : Option Addr} {ps : Array Value} : exoT e C t d ≠ .tbl ps := fun z => by
  have z' : HO.ext _ = HO.tbl ps := z
  cases z'
section
variable {P : Program} {w : World} {H : Hp} {h : Heap} {e C t : Addr} {d : Option Addr}
theorem exoT_ok (he : h.get? e = some ({ cls := .ref C, dict := d, data := .fields #[.ref t, .none, .none, .none, .bool false, .none] } : Obj)) : ObjOk P w H h e (exoT e C t d) :=
  ⟨he, ⟨_, he⟩, fun h1 h2 z k => k _ z⟩
theorem exoT_at (hok : HOk P w H h) (he : H e = some (exoT e C t d)) : h.get? e = some ({ cls := .ref C, dict := d, data := .fields #[.ref t, .none, .none, .none, .bool false, .none] } : Obj) := by
  have x : ObjOk P w H h e (.ext fun h => h.get? e = some ({ cls := .ref C, dict := d, data := .fields #[.ref t, .none, .none, .none, .bool false, .none] } : Obj)) := hok e _ he
  exact x.1
theorem exT_ok {cls : Value} {a : Addr} {oe : Obj} {vs : Array Value} (e : h.get? a = some oe) (z : Zc cls d oe) (hd : oe.data = .fields vs) (h0 : vs[0]? = some (.ref t)) : ObjOk P w H h a (ExT cls d t a) :=
  ⟨⟨oe, vs, e, z, hd, h0⟩, ⟨oe, e⟩, fun _ _ ⟨o, v, q, r⟩ k => ⟨o, v, k o q, r⟩⟩
end
section
variable {X : Cx} {pins : List (Addr × Obj)} {σ : L2.St} {H : Hp} {s : Shared} {a C t : Addr} {f : Str} {y : V} {u : Value} {E : Value → Shared → Prop} {A : Around}
theorem oinitT_ok {us : List Value} {ws : List V} {Q : Value → Shared → Prop} (T : OexC X.K C) (I : Inv X pins σ H s) (e : H a = some (exo a C none)) (hl : ws.length ≤ sizeLine) (r : Vals ws us)
    (h : ∀ t s', H t = none → t ≠ a → Inv X pins σ (upd (upd H t (.tup ws)) a (exoT a C t none)) s' → Q .none s') :
    wpAny (model X.prog X.w) A (call (.builtin "ValueError.__init__") (.ref a :: us)) Q E s := by
  obtain ⟨nm, q, N, bs, bm, sn, sub, ab, col, dd, k0, k1, k2, k3, k5, hC, hbm⟩ := T.cls
  obtain ⟨t1, ho⟩ := exo_at I.hok e
  obtain ⟨hp, g, d, t0, os⟩ := s
  have hlu : us.length ≤ sizeLine := by rw [← r.length]; exact hl
  refine wpAny_call (PySem.HandSPX.init_baseT F.excBase_ValueError (fun Y => PySem.HandSPX.refsVE_contains Y bm hbm) (I.kIn _ _ hC) ho hlu fun h' k hx ht => ?_)
  obtain ⟨dx, edx⟩ : ∃ dx, dx = hp.objs.size := ⟨_, rfl⟩
  have dn : hp.objs.size ≤ dx := by rw [edx]; exact Nat.le_refl _
  rw [← edx] at hx ht
  have hnd : H dx = none := I.hok.fresh dn
  have dne : dx ≠ a := fun z => by rw [z, e] at hnd; cases hnd
  have nd : ∀ {b : Addr} {o : Obj}, hp.get? b = some o → b ≠ dx := fun {b o} q => Nat.ne_of_lt (Nat.lt_of_lt_of_le (Heap.lt_size q) dn)
  have na : ∀ {b : Addr}, H b = none → b ≠ a := fun {b} n z => by
    rw [z, e] at n
    cases n
  have Un1 : Un X.fs [] H (upd (upd H dx (.tup ws)) a (exoT a C dx none)) hp h' := {
    keep := fun b o q n _ _ => k b o (na n) q
    slot := fun b o q n _ _ => ⟨o.slots, k b o (na n) q⟩
    free := fun b o q n _ => by rw [upd_ne (na n), upd_ne (nd q)]; exact n
    there := fun b o q _ => by
      by_cases hb : b = a
      · exact ⟨_, by rw [hb]; exact hx⟩
      · exact ⟨o, k b o hb q⟩
    tups := fun b xs q => by rw [upd_ne (at_ne e q exo_tup), upd_ne (ne_of_none q hnd)]; exact q
    frzs := fun b o v q => by rw [upd_ne (at_ne e q exo_frz), upd_ne (ne_of_none q hnd)]; exact q
    tbls := fun b ps q => ⟨#[], by rw [upd_ne (at_ne e q exo_tbl), upd_ne (ne_of_none q hnd), q]; simp⟩ }
  refine h dx _ hnd dne (I.un (t' := t0) Un1 fun b o q => ?_)
  by_cases hb : b = a
  · subst hb
    rw [upd_same] at q
    cases q
    exact exoT_ok hx
  · rw [upd_ne hb] at q
    by_cases hd : b = dx
    · subst hd
      rw [upd_same] at q
      cases q
      exact ⟨hl, us, r, _, ht, rfl, _, rfl⟩
    · rw [upd_ne hd] at q
      exact (I.hok b o q).stay (fun c v hc z => k c v (by
          rcases hc with hc | hc
          · rw [hc]
            exact hb
          · exact at_ne e hc exo_own) z)
        (fun c hc => by rw [upd_ne (at_ne e hc exo_own), upd_ne (ne_of_none hc hnd)]; exact hc) (fun c xs hc => by rw [upd_ne (at_ne e hc exo_tup), upd_ne (ne_of_none hc hnd)]; exact hc)
theorem ostT_new {Q : Unit → Shared → Prop} (T : OexC X.K C) (I : Inv X pins σ H s) (e : H a = some (exoT a C t none)) (hno : PySem.W.findIn X.K (.ref C) f = some none) (ry : RelV y u)
    (h : ∀ dx s', H dx = none → dx ≠ a → Inv X pins σ (upd (upd H dx (exd dx [(f, y)])) a (exoT a C t (some dx))) s' → Q () s') : wpAny (model X.prog X.w) A (setAttr (.ref a) f u) Q E s := by
  obtain ⟨nm, q, N, bs, bm, sn, sub, ab, col, dd, k0, k1, k2, k3, k5, hC, hbm⟩ := T.cls
  have hcl : PySem.W.clsIn X.K C = some { name := nm, bases := bs, mro := .ref C :: bm, ns := N, qualname := q, hasDict := true, slotNames := sn, subclasses := sub, abstract := ab, collection := col, hasDel := false } := by unfold PySem.W.clsIn; rw [hC] <;> rfl
  have ho := exoT_at I.hok e
  obtain ⟨hp, g, d, tk, os⟩ := s
  refine PySem.W.set_plain I.kIn (ox := { cls := .ref C, dict := none, data := .fields #[.ref t, .none, .none, .none, .bool false, .none] }) (od := none) ⟨ho, rfl, rfl, trivial⟩ T.sa ?_
  refine PySem.HandSPX.exc_osa I.kIn ho hcl (show PySem.HandSPX.refsVE (.ref C :: bm) = true from hbm) rfl hno (fun h' tk' dx k dn dne hx hn => ?_)
  have hnd : H dx = none := I.hok.fresh dn
  have nd : ∀ {b : Addr} {o : Obj}, hp.get? b = some o → b ≠ dx := fun {b o} q => Nat.ne_of_lt (Nat.lt_of_lt_of_le (Heap.lt_size q) dn)
  have na : ∀ {b : Addr}, H b = none → b ≠ a := fun {b} n z => by
    rw [z, e] at n
    cases n
  have Un1 : Un X.fs [] H (upd (upd H dx (exd dx [(f, y)])) a (exoT a C t (some dx))) hp h' := {
    keep := fun b o q n _ _ => k b o (na n) q
    slot := fun b o q n _ _ => ⟨o.slots, k b o (na n) q⟩
    free := fun b o q n _ => by rw [upd_ne (na n), upd_ne (nd q)]; exact n
    there := fun b o q _ => by
      by_cases hb : b = a
      · exact ⟨_, by rw [hb]; exact hx⟩
      · exact ⟨o, k b o hb q⟩
    tups := fun b xs q => by rw [upd_ne (at_ne e q exoT_tup), upd_ne (ne_of_none q hnd)]; exact q
    frzs := fun b o v q => by rw [upd_ne (at_ne e q exoT_frz), upd_ne (ne_of_none q hnd)]; exact q
    tbls := fun b ps q => ⟨#[], by rw [upd_ne (at_ne e q exoT_tbl), upd_ne (ne_of_none q hnd), q]; simp⟩ }
  refine h dx _ hnd dne (I.un (t' := tk') Un1 fun b o q => ?_)
  by_cases hb : b = a
  · subst hb
    rw [upd_same] at q
    cases q
    exact exoT_ok hx
  · rw [upd_ne hb] at q
    by_cases hd : b = dx
    · subst hd
      rw [upd_same] at q
      cases q
      exact exd_ok hn (relO_put (fs := []) ry fun g => True.intro)
    · rw [upd_ne hd] at q
      exact (I.hok b o q).stay (fun c v hc z => k c v (by
          rcases hc with hc | hc
          · rw [hc]
            exact hb
          · exact at_ne e hc exoT_own) z)
        (fun c hc => by rw [upd_ne (at_ne e hc exoT_own), upd_ne (ne_of_none hc hnd)]; exact hc) (fun c xs hc => by rw [upd_ne (at_ne e hc exoT_tup), upd_ne (ne_of_none hc hnd)]; exact hc)
end
noncomputable def tVeIT (K : Frag) (ta : TA) : TE := fun σ H Q => ta σ H fun vs H1 => ∃ (a C : Addr) (ws : List V), vs = .ref a :: ws ∧ ws.length ≤ 1000 ∧ OexC K C ∧ H1 a = some (exo a C none) ∧ ∀ t, H1 t = none → t ≠ a → Q .non (upd (upd H1 t (.tup ws)) a (exoT a C t none))
noncomputable def tOstT (K : Frag) (f : Str) (to te : TE) : TS := fun D σ H => te σ H fun y H1 => to σ H1 fun x H2 => ∃ a C t : Addr, x = .ref a ∧ OexC K C ∧ PySem.W.findIn K (.ref C) f = some none ∧ H2 a = some (exoT a C t none) ∧
  ∀ dx, H2 dx = none → dx ≠ a → D.nx σ (upd (upd H2 dx (exd dx [(f, y)])) a (exoT a C t (some dx)))
section
variable {X : Cx} {o e : Expr} {es : List Expr} {to te : TE} {ta : TA} {f h : Str} {p p' p1 p2 pos : Pos}
theorem pe_hinitT {pl : Sem Bool} (hg : Gl X h) (T : HiOk X.K X.mg h) (ha : PA X (e :: es) ta) (hdb : (h == ("__debug__" : Str)) = false := by decide)
    (hc : eval (.Call (.Attribute (.Name h p1) "__init__" p2) (e :: es) [] pos) X.env = (do
      let ov ← eval (.Name h p1) X.env
      standAt p2.atName
      let (f, first) ← holding [ov] (getMethod ov "__init__" pl)
      callWith pos f first (backTo pos (starEach (e :: es) X.env)) (backToKw pos (keywordEach [] X.env))) := by rfl)
    (he : starEach (e :: es) X.env = (false, eval e X.env) :: starEach es X.env := by rfl) (hpl : (backTo pos (starEach es X.env)).any (·.1) = false := by rfl) :
    PE X (.Call (.Attribute (.Name h p1) "__init__" p2) (e :: es) [] pos) (tVeIT X.K ta) := by
  obtain ⟨D, mc, hm, hr, hga, hv⟩ := T
  refine ⟨fun pins s σ H Q I h => ?_⟩
  refine PySem.W.methodCall_KW (ld_glob I hg hm ?_ hdb) hc
  refine PySem.W.method_cls I.kIn hga (PySem.W.cls_value I.kIn hr hv (by decide +kernel) ?_)
  show wpAny _ _ (callWith pos (Value.builtin "ValueError.__init__") [] (backTo pos (starEach (e :: es) X.env)) []) _ _ _
  refine PyProof.Rows.callWith_method1 (thn (ha.run pos pins _ σ H _ (I.tok _) h) fun us s1 ⟨vs, H1, I1, r1, a, C, ws, ev, hl, T, ea, q⟩ => ?_) he hpl
  subst ev
  cases r1 with
  | @cons _ u0 _ ur ra rw' =>
    obtain rfl : u0 = Value.ref a := ra
    exact oinitT_ok T I1 ea (by rw [sizeLine_eq]; omega) rw' fun t s' n ne J => ⟨.non, _, J, rfl, q t n ne⟩
theorem ps_ostT (ho : PE X o to) (he : PE X e te) (hs : swapsWith e (some (.Attribute o f p')) pos.line X.env = pure false := by rfl) : PS X (.Assign [.Attribute o f p'] e pos) (tOstT X.K f to te) := by
  refine ⟨fun pins s σ H D I h => ?_⟩
  refine plainObj_wpAny_Assign_Attribute (thn (he.run pins s σ H _ I h) fun v s1 ⟨y, H1, I1, r1, q1⟩ => thn (ho.run pins s1 σ H1 _ I1 q1) fun u s2 ⟨x, H2, I2, r2, a, C, t, ex, T, hno, ea, q⟩ => ?_) hs
  subst ex
  obtain rfl : u = Value.ref a := r2
  exact ostT_new T I2 ea hno r1 fun dx s' n ne J => ⟨σ, _, J, q dx n ne⟩
end
end Dm
namespace Dm
open PySem L2 PySem.Spec PyProof.Rows
open PySem.W (Frag)
noncomputable def spInitT (K : Frag) (C : Addr) (ns : List Str) (m : Str) : Sp := fun vs H Q E => ∃ a ys, vs = .ref a :: ys ∧ ys.length = ns.length ∧ H a = some (exo a C none) ∧
  ∀ H' t d, H t = none → t ≠ a → H d = none → d ≠ a → d ≠ t → H' a = some (exoT a C t (some d)) → H' d = some (exd d (ns.zip ys).reverse) → H' t = some (.tup [.str m]) → (∀ b, b ≠ a → b ≠ d → b ≠ t → H' b = H b) → Q .non H'
noncomputable def tInitT (K : Frag) (f msg : Str) : TS := tSeq (tDrop (tVeIT K (tCons (tVar 0) (tCons (tC (.str msg)) tNil)))) (tOstT K f (tVar 0) (tVar 1))
structure XiOkT (P : Program) (w : World) (K : Frag) (mg : Str → Option Value) (base : Heap) (k : Nat) (x : Str) (ns : List Str) (m : Str) : Prop where
  ex : ∃ (C fI : Addr) (fd : FuncData) (ps : List Str), mg x = some (.ref C) ∧ OexC K C ∧ PySem.W.findIn K (.ref C) "__init__" = some (some (.ref fI)) ∧ PySem.W.typeIn K (.ref fI) = some (.type "function") ∧ Binds K fd ps [] ∧
    FnOk P w K mg base (L2.CX P w) k fI fd ps (spInitT K C ns m)
section
variable {P : Program} {w : World} {K : Frag} {mg : Str → Option Value} {base : Heap} {C fI : Addr} {fd : FuncData} {x f g msg qual : Str} {st : Stmt}
theorem xi_mk1T (hm : mg x = some (.ref C)) (T : OexC K C) (iC : PySem.W.findIn K (.ref C) "__init__" = some (some (.ref fI))) (tI : PySem.W.typeIn K (.ref fI) = some (.type "function")) (F : Fun K "__init__" qual st fI fd) (B : Binds K fd ["self", f] [])
    (S : FnScope ["self", f] ["self", f] (defScope st)) (hno : PySem.W.findIn K (.ref C) f = some none)
    (hb : ∀ (cdv : Value) (A : Around) (outer : List Env) (s : Shared) (H : Hp) (E : XK), PSs (cxOf (L2.CX P w) P w K mg base ["self", f] qual (defScope st) fI cdv A outer s H E) (defBody st) (tInitT K f msg)) : XiOkT P w K mg base 1 x [f] msg := by
  refine ⟨C, fI, fd, _, hm, T, iC, tI, B, F.okX S (fun vs H Q E h => ?_) (fun cdv A outer s H vs Q E hr h => ?_)⟩
  · obtain ⟨a, ys, rfl, hl, _⟩ := h
    simp at hl
    simp [hl]
  · obtain ⟨a, ys, rfl, hl, ha, hq⟩ := h
    match ys, hl with
    | [y], _ =>
      refine ⟨_, hb cdv A outer s H E, ?_⟩
      refine ⟨.ref a, rfl, ?_⟩
      refine ⟨a, C, [.str msg], rfl, (by simp), T, ha, fun t tn tne => ?_⟩
      refine ⟨y, rfl, .ref a, rfl, a, C, t, rfl, T, hno, upd_same, fun dx n ne => ?_⟩
      have dt : dx ≠ t := fun z => by
        rw [z, upd_ne tne, upd_same] at n; cases n
      have hdx : H dx = none := by
        rw [upd_ne ne, upd_ne dt] at n; exact n
      refine hq _ t dx tn tne hdx ne dt upd_same ?_ ?_ fun b h1 h2 h3 => ?_
      · rw [upd_ne ne, upd_same]; rfl
      · rw [upd_ne tne, upd_ne (Ne.symm dt), upd_ne tne, upd_same]
      · rw [upd_ne h1, upd_ne h2, upd_ne h1, upd_ne h3]
end
noncomputable def tMkT (C : Addr) (sp : Sp) (m : Str) (ta : TA) : TE := fun σ H Q => ta σ H fun vs H1 => vs.length ≤ 1000 ∧ ∀ a, H1 a = none → sp (.ref a :: vs) (upd H1 a (exo a C none))
  (fun v H2 => v = .non ∧ ∃ (d t : Addr) (fs : List (Str × V)), H2 a = some (exoT a C t (some d)) ∧ H2 d = some (exd d fs) ∧ H2 t = some (.tup [.str m]) ∧ H1 d = none ∧ Q (.ref a) (upd (upd H2 a (ExT (.ref C) (some d) t a)) d (.xd fs))) (fun _ _ _ => False)
section
variable {X : Cx} {e : Expr} {es : List Expr} {ta : TA} {p pos : Pos}
theorem mk_endT {pins : List (Addr × Obj)} {σ : L2.St} {H1 H2 : Hp} {hp hp2 h2 : Heap} {g1 g2 : Array GenState} {d1 d2 : Drawn} {t1 t2 : Nat} {os1 os2 : OsState} {a C d t : Addr} {fs : List (Str × V)} (I1 : Inv X pins σ H1 ⟨hp, g1, d1, t1, os1⟩)
    (ha : hp.objs.size ≤ a) (k : ∀ b o, hp.get? b = some o → hp2.get? b = some o) (un : Un (frs X.stack) [] (upd H1 a (exo a C none)) H2 hp2 h2) (hok : HOk X.prog X.w H2 h2) (ho : os2 = os1) (hb : AllBare g2)
    (ea : H2 a = some (exoT a C t (some d))) (ed : H2 d = some (exd d fs)) (hd1 : H1 d = none) :
    Inv X pins σ (upd (upd H2 a (ExT (.ref C) (some d) t a)) d (.xd fs)) ⟨h2, g2, d2, t2, os2⟩ := by
  have hoe := exoT_at hok ea
  obtain ⟨mA, hns, rel⟩ := exd_at hok ed
  have hn : H1 a = none := I1.hok.fresh ha
  have hda : d ≠ a := fun z => by
    obtain ⟨o, es, ep, e1, e2, _⟩ := hns
    rw [z, hoe] at e1
    have z2 := Option.some.inj e1
    subst z2
    cases e2
  have nha : ∀ {b : Addr} {o : Obj}, hp.get? b = some o → b ≠ a := fun {b o} z => Nat.ne_of_lt (Nat.lt_of_lt_of_le (Heap.lt_size z) ha)
  have up : ∀ {b : Addr}, b ≠ a → H1 b = none → upd H1 a (exo a C none) b = none := fun {b} hb n => by rw [upd_ne hb]; exact n
  have nd : ∀ {b : Addr} {o : Obj}, hp.get? b = some o → H1 b = none → b ≠ d := fun {b o} z n e => by
    have y := un.free b o (k b o z) (up (nha z) n) (by simp)
    rw [e, ed] at y
    cases y
  have U : Un (frs X.stack) [] H1 (upd (upd H2 a (ExT (.ref C) (some d) t a)) d (.xd fs)) hp h2 := {
    keep := fun b o z n hf hx => un.keep b o (k b o z) (up (nha z) n) hf hx
    slot := fun b o z n hf hx => un.slot b o (k b o z) (up (nha z) n) hf hx
    free := fun b o z n hx => by
      rw [upd_ne (nd z n), upd_ne (nha z)]
      exact un.free b o (k b o z) (up (nha z) n) hx
    there := fun b o z hx => un.there b o (k b o z) hx
    tups := fun b xs z => by
      rw [upd_ne (ne_of_none z hd1), upd_ne (ne_of_none z hn)]
      exact un.tups b xs (by rw [upd_ne (ne_of_none z hn)]; exact z)
    frzs := fun b o v z => by
      rw [upd_ne (ne_of_none z hd1), upd_ne (ne_of_none z hn)]
      exact un.frzs b o v (by rw [upd_ne (ne_of_none z hn)]; exact z)
    tbls := fun b ps z => by
      rw [upd_ne (ne_of_none z hd1), upd_ne (ne_of_none z hn)]
      exact un.tbls b ps (by rw [upd_ne (ne_of_none z hn)]; exact z) }
  have hok3 : HOk X.prog X.w (upd (upd H2 a (ExT (.ref C) (some d) t a)) d (.xd fs)) h2 := fun b o z => by
    by_cases hbd : b = d
    · subst hbd
      rw [upd_same] at z
      cases z
      exact ⟨mA, hns, rel⟩
    · rw [upd_ne hbd] at z
      by_cases hba : b = a
      · subst hba
        rw [upd_same] at z
        cases z
        exact exT_ok hoe ⟨rfl, rfl⟩ rfl rfl
      · rw [upd_ne hba] at z
        exact (hok b o z).stay (fun c v hc y => y)
          (fun c hc => by rw [upd_ne (at_ne ed hc exd_own), upd_ne (at_ne ea hc exoT_own)]; exact hc) (fun c xs hc => by rw [upd_ne (at_ne ed hc exd_tup), upd_ne (at_ne ea hc exoT_tup)]; exact hc)
  exact I1.call' (ch := []) ho U hok3 hb (fun b z => absurd z (by simp))
theorem pe_oexT {CX : CXT} {x m : Str} {C fI : Addr} {k : Nat} {fd : FuncData} {ps : List Str} {sp : Sp} (T : OexC X.K C) (iC : PySem.W.findIn X.K (.ref C) "__init__" = some (some (.ref fI))) (tI : PySem.W.typeIn X.K (.ref fI) = some (.type "function"))
    (F1 : FnOk X.prog X.w X.K X.mg X.base CX k fI fd ps sp) (hr : Room (k + 1) X.A) (hb : Binds X.K fd ps []) (hx : Passes CX X (fun _ _ _ => False)) (hg : Gl X x) (hm : X.mg x = some (.ref C)) (ha : PA X (e :: es) ta)
    (hdb : (x == ("__debug__" : Str)) = false := by decide) (he : starEach (e :: es) X.env = (false, eval e X.env) :: starEach es X.env := by rfl) (hpl : (backTo pos (starEach es X.env)).any (·.1) = false := by rfl) :
    PE X (.Call (.Name x p) (e :: es) [] pos) (tMkT C sp m ta) := by
  refine ⟨fun pins s σ H Q I h => ?_⟩
  obtain ⟨nm, q, N, bs, bm, sn, sub, ab, col, dd, k0, k1, k2, k3, k5, hC, hbm⟩ := T.cls
  refine wpAny_Call_Name_kw (ld_glob I hg hm ?_ hdb)
  refine PySem.W.callWith_K (h₀ := X.base) I.ok.mod.kin T.kC (thn (ha.run pos pins s σ H _ I h) fun us s1 ⟨vs, H1, I1, r1, hz, q1⟩ => ⟨I1.kIn, ?_⟩) he hpl
  show wpAny _ _ (call (.ref C) us) _ _ _
  obtain ⟨hp, g, dr, tk, os⟩ := s1
  have hsz : hp.objs.size ≤ hp.objs.size + 1 := Nat.le_succ _
  have hn : H1 (hp.objs.size + 1) = none := I1.hok.fresh hsz
  have hq := q1 (hp.objs.size + 1) hn
  have kk : ∀ b o, hp.get? b = some o → ((hp.push (PySem.W.kdv_tup us)).push (PySem.HandSPX.excO C hp.objs.size)).get? b = some o := fun b o e => Heap.get?_push_of_some _ (Heap.get?_push_of_some _ e)
  have hget : ((hp.push (PySem.W.kdv_tup us)).push (PySem.HandSPX.excO C hp.objs.size)).get? (hp.objs.size + 1) = some (PySem.HandSPX.excO C hp.objs.size) := by heap_get
  have I2 : Inv X pins σ (upd H1 (hp.objs.size + 1) (exo (hp.objs.size + 1) C none)) ⟨(hp.push (PySem.W.kdv_tup us)).push (PySem.HandSPX.excO C hp.objs.size), g, dr, tk, os⟩ :=
    I1.laid (t' := tk) (a := hp.objs.size + 1) (o := exo (hp.objs.size + 1) C none) (h' := (hp.push (PySem.W.kdv_tup us)).push (PySem.HandSPX.excO C hp.objs.size)) kk hsz (exo_ok hget)
  have r2 : Vals (V.ref (hp.objs.size + 1) :: vs) (Value.ref (hp.objs.size + 1) :: us) := .cons rfl r1
  have hl : (Value.ref (hp.objs.size + 1) :: us).length = ps.length := by
    have e := r2.length
    rw [F1.len _ _ _ _ hq] at e
    exact e.symm
  have hus : us.length ≤ sizeLine := by
    rw [← Paired.length r1, sizeLine_eq]
    omega
  have hbd := hb ⟨(hp.push (PySem.W.kdv_tup us)).push (PySem.HandSPX.excO C hp.objs.size), g, dr, tk, os⟩ (Value.ref (hp.objs.size + 1) :: us) I2.kIn (by rw [List.append_nil]; exact hl)
  rw [List.append_nil] at hbd
  refine wpAny_call (PySem.HandSPX.call_own F.excBase_ValueError (fun Y => PySem.HandSPX.refsVE_contains Y bm hbm) (I1.kIn _ _ hC) (PySem.W.looks_findIn I1.kIn iC) (fun self => PySem.W.bind_fn I1.kIn self tI) hus
    (codeAny_mono (F1.run _ X.stack _ _ ⟨Value.ref (hp.objs.size + 1) :: us, []⟩ (Value.ref (hp.objs.size + 1) :: us) _ _ (fun _ _ _ => False) (hr.make C us []) (I2.env0.make C us []) hbd r2 hq) fun r s' hq' => ?_))
  cases r with
  | error er => exact hx pins σ _ _ er s' I2 hq'
  | ok fl =>
    cases fl with
    | ret u =>
      obtain ⟨v, H2, os2, bare2, un2, hok2, rv, ev, d, t, fs, ea, ed, et, hd1, q2⟩ := hq'
      subst ev
      obtain ⟨h2, g2, d2, t2, os'⟩ := s'
      exact ⟨rv, .ref (hp.objs.size + 1), _, mk_endT I1 hsz kk un2 hok2 os2 bare2 ea ed hd1, rfl, q2⟩
    | next => exact False.elim hq'
    | brk => exact False.elim hq'
    | cont => exact False.elim hq'
end
end Dm
namespace Dm
open PySem L2 PySem.Spec PyProof.Rows
open PySem.W (Frag)
noncomputable def mNewTX (c m : Str) (n : Nat) (ma : MA) : ME := fun ρ S => (ma ρ S).bind fun ds S1 => if ds.length = n then .ok (.exn c (mkd m)) S1 else .bad
noncomputable def mNewT (c m : Str) : ME := fun _ S => .ok (.exn c (mkd m)) S
section
variable {X : Cx} {W : WX} {e : Expr} {es : List Expr} {mr : MA} {m : Str} {p p1 p2 pos pos2 : Pos}
theorem d_newTX {j k n : Nat} {x : Str} {ns : List Str} (C : XiOkT X.prog X.w X.K X.mg X.base j x ns m) (P : PlOk X.K X.mg [x]) (hr : Room k X.A) (ha : DA X W (e :: es) mr) (hj : j + 1 ≤ k := by decide) (hn : ns.length ≤ 1000 := by decide) (hg : Gl X x := by rfl) (hdb : (x == ("__debug__" : Str)) = false := by decide) (hnl : ns.length = n := by rfl)
    (he : starEach (e :: es) X.env = (false, eval e X.env) :: starEach es X.env := by rfl) (hpl : (backTo pos (starEach es X.env)).any (·.1) = false := by rfl) :
    DE X W (.Call (.Name x p) (e :: es) [] pos) (mNewTX x m n mr) := by
  subst hnl
  obtain ⟨C, fI, fd, ps, hm, T, iC, tI, B, F⟩ := C
  obtain ⟨cls, e3, e4⟩ := P.ex x List.mem_cons_self
  obtain rfl : cls = .ref C := Option.some.inj (e3.symm.trans hm)
  obtain ⟨ta, pa, ka⟩ := ha
  refine ⟨_, pe_oexT (m := m) T iC tI F (hr.mono hj) B (fun _ _ _ _ _ _ _ h => (let ⟨_, _, _, _, _, _, _, _, _, _, _, _, z⟩ := h; z.elim)) hg hm pa hdb he hpl, fun ξ μ σ H ρ S Q g s h => ka ξ μ σ H ρ S _ g s (WR.bind h fun ds S1 vs μ1 H1 u1 s1 r1 h1 => ?_)⟩
  by_cases c : ds.length = ns.length
  · rw [if_pos c] at h1
    have hl := r1.length
    refine ⟨by rw [hl, c]; exact hn, fun a na => ⟨a, vs, rfl, by rw [hl, c], upd_same, fun H' t d ht ta' hd da dt e1 e2 e6 e5 => ⟨rfl, d, t, _, e1, e2, e6, ?_, ?_⟩⟩⟩
    · rw [upd_ne da] at hd; exact hd
    · rw [upd_ne da] at hd
      rw [upd_ne ta'] at ht
      have eq : upd (upd H' a (ExT (.ref C) (some d) t a)) d (.xd (ns.zip vs).reverse) = upd (upd (upd H1 t (.tup [.str m])) d (.xd (ns.zip vs).reverse)) a (ExT (.ref C) (some d) t a) := by
        funext b
        by_cases hb : b = d
        · rw [hb, upd_same, upd_ne da, upd_same]
        · rw [upd_ne hb]
          by_cases ha : b = a
          · rw [ha, upd_same, upd_same]
          · rw [upd_ne ha, upd_ne ha, upd_ne hb]
            by_cases ht' : b = t
            · rw [ht', e6, upd_same]
            · rw [upd_ne ht', e5 b ha hb ht', upd_ne ha]
      rw [eq]
      have s2 := s1.fresh (o := .tup [.str m]) ht
      have hd2 : upd H1 t (.tup [.str m]) d = none := by rw [upd_ne dt]; exact hd
      have s3 := s2.fresh (o := .xd (ns.zip vs).reverse) hd2
      have na3 : upd (upd H1 t (.tup [.str m])) d (.xd (ns.zip vs).reverse) a = none := by rw [upd_ne (Ne.symm da), upd_ne (Ne.symm ta')]; exact na
      refine h1 _ μ1 _ (((Up.fresh ht).trans (.fresh hd2)).trans (.fresh na3)) (s3.fresh na3) (.exn (.inr ⟨m, rfl, _, some d, t, ⟨hm, e4⟩, ⟨upd_same, s3.out na3, s3.outX na3⟩, ⟨by rw [upd_ne ta', upd_ne (Ne.symm dt), upd_same], s1.out ht, s1.outX ht⟩, .inr ⟨d, _, rfl, by rw [upd_ne da, upd_same], s2.out hd2, s2.outX hd2⟩⟩))
  · rw [if_neg c] at h1; exact h1.elim
theorem d_newT {x : Str} {jj : Nat} (C : XcOk X.K X.mg x) (P : PlOk X.K X.mg [x]) (hg : Gl X x := by rfl) (hdb : (x == ("__debug__" : Str)) = false := by decide) :
    DE X W (.Call (.Name x p) [.Constant (.str m) jj p2] [] pos) (mNewT x m) := by
  obtain ⟨C, h1, h2, h3, h4, h5⟩ := C
  obtain ⟨cls, e3, e4⟩ := P.ex x List.mem_cons_self
  obtain rfl : cls = .ref C := Option.some.inj (e3.symm.trans h1)
  refine ⟨fun σ H Q => ∀ t, H t = none → ∀ a, a ≠ t → H a = none → Q (.ref a) (upd (upd H t (.tup [.str m])) a (ExT (.ref C) none t a)), ⟨fun pins s σ H Q I h => ?_⟩, fun ξ μ σ H ρ S Q g s h t ht a ha na => ?_⟩
  · have one : PA X [.Constant (.str m) jj p2] (tCons (tC (.str m)) tNil) := pa_cons pe_str pa_nil
    refine wpAny_Call_Name_kw (ld_glob I hg h1 ?_ hdb)
    refine PySem.W.callWith_K (h₀ := X.base) I.ok.mod.kin h3 (thn (one.run pos pins s σ H (fun vs H1 => vs = [V.str m] ∧ H = H1) I ⟨rfl, rfl⟩) fun us s1 ⟨vs, H1, I1, r1, ev, eH⟩ => ?_)
    subst ev eH
    refine ⟨I1.kIn, ?_⟩
    cases r1 with
    | @cons _ u _ _ ru rn =>
      cases rn
      obtain ⟨tk, rfl⟩ := ru
      obtain ⟨bm, N, nm, qn, bs, hdct, sn, sub, ab, col, dd, k0, k1, k2, k3, k5, mN, hC, hN, hni, T⟩ := exc_obj I1.kIn h2
      refine wpAny_call_exc_subT PySem.F.excBase_ValueError T hC hN hni (fun h' e hm => ?_) (by show 1 ≤ sizeLine; rw [sizeLine_eq]; omega)
      obtain ⟨t, he, ht0, ht⟩ := hm.there
      obtain ⟨hp, gg, dr, tok, os⟩ := s1
      have hte : t ≠ e := fun z => by
        rw [z, he] at ht
        have z2 := Option.some.inj ht
        cases congrArg Obj.data z2
      have nt : H t = none := I1.hok.gone ht0
      have ne : H e = none := I1.hok.gone hm.new
      obtain ⟨G, g1', g2'⟩ := restrict h' fun b => decide (b ≠ e)
      have gk : ∀ b, b ≠ e → G.get? b = h'.get? b := fun b hb => g1' b (decide_eq_true hb)
      have ge : G.get? e = none := g2' e (by simp)
      have k1 : ∀ b o, hp.get? b = some o → G.get? b = some o := fun b o z => by
        have hb : b ≠ e := fun q => by
          have := hm.new
          rw [← q, z] at this; cases this
        rw [gk b hb]
        exact hm.keeps b o z
      have k2 : ∀ b o, G.get? b = some o → h'.get? b = some o := fun b o z => by
        by_cases hb : b = e
        · rw [hb, ge] at z; cases z
        · rw [← gk b hb]; exact z
      have tok2 : ObjOk X.prog X.w (upd H t (.tup [.str m])) G t (.tup [.str m]) := ⟨by show 1 ≤ sizeLine; rw [sizeLine_eq]; omega, [.str m tk], .cons ⟨tk, rfl⟩ .nil, _, (gk t hte).trans ht, rfl, _, rfl⟩
      have J1 : Inv X pins σ (upd H t (.tup [.str m])) ⟨G, gg, dr, tok, os⟩ := I1.call' (ch := []) rfl (Un.laidN k1 ht0 nt) (I1.hok.laidN k1 nt tok2) I1.bare (fun b z => nomatch z)
      have ne2 : upd H t (.tup [.str m]) e = none := by rw [upd_ne (Ne.symm hte)]; exact ne
      have J2 : Inv X pins σ (upd (upd H t (.tup [.str m])) e (ExT (.ref C) none t e)) ⟨h', gg, dr, tok, os⟩ := J1.call' (ch := []) rfl (Un.laidN k2 ge ne2) (J1.hok.laidN k2 ne2 (exT_ok he ⟨rfl, rfl⟩ rfl rfl)) J1.bare (fun b z => nomatch z)
      exact ⟨.ref e, _, J2, rfl, h t nt e (Ne.symm hte) ne⟩
  · have s2 := s.fresh (o := .tup [.str m]) ht
    have na2 : upd H t (.tup [.str m]) a = none := by rw [upd_ne ha]; exact na
    exact h _ μ _ ((Up.fresh ht).trans (.fresh na2)) (s2.fresh na2) (.exn (.inr ⟨m, rfl, _, none, t, ⟨h1, e4⟩, ⟨upd_same, s2.out na2, s2.outX na2⟩, ⟨by rw [upd_ne (Ne.symm ha), upd_same], s.out ht, s.outX ht⟩, .inl rfl⟩))
end
section
variable {S : Sto} {ρ : Rho} {E : EX} {Q : D → Sto → Prop}
@[simp] theorem does_newT {c m : Str} : (mNewT c m ρ S).DoesE E Q = Q (.exn c (mkd m)) S := rfl
@[simp] theorem does_newTX {c m : Str} {n : Nat} {ma : MA} : (mNewTX c m n ma ρ S).DoesE E Q = (ma ρ S).DoesE E fun ds S1 => ds.length = n ∧ Q (.exn c (mkd m)) S1 := by
  unfold mNewTX
  rw [does_bind]; congr 1; funext ds S1
  by_cases h : ds.length = n
  · rw [if_pos h]; simp [h]
  · rw [if_neg h]; simp [h, Res.DoesE]
end
end Dm
namespace Dm
open PySem L2 PySem.Spec PyProof.Rows
open PySem.W (Frag)
structure RpC (K : Frag) (C : Addr) (c : Str) : Prop where
  nm : ∃ cd, PySem.W.clsIn K C = some cd ∧ excReprHead cd.name.toString = c
  re : PySem.W.findIn K (.ref C) "__repr__" = some (some (.builtin "BaseException.__repr__"))
  sub : PySem.W.subIn K (.ref C) (.type "BaseException") = some true
structure RpOk (K : Frag) (mg : Str → Option Value) (cs : List Str) : Prop where
  ex : ∀ c, c ∈ cs → ∃ C : Addr, mg c = some (.ref C) ∧ RpC K C c
theorem nameIn_of {K : Frag} {C : Addr} {c : Str} (h : ∃ cd, PySem.W.clsIn K C = some cd ∧ excReprHead cd.name.toString = c) : ∃ o cd, K.lookup C = some o ∧ o.data = .cls cd ∧ excReprHead cd.name.toString = c := by
  obtain ⟨cd, h, e⟩ := h
  unfold PySem.W.clsIn at h
  split at h
  · rename_i c' d' cd' sl' ho
    cases h
    exact ⟨_, _, ho, rfl, e⟩
  · cases h
noncomputable def excT (c m : Str) : Str := c ++ "(" ++ reprText m ++ ")"
mutual
inductive Sx (K : Frag) (H : Hp) : V → Nat → Str → Prop
  | non : Sx K H .non 4 "None"
  | bl (b : Bool) : Sx K H (.bl b) 4 (if b then "True" else "False")
  | int (i : Int) : i.natAbs.log2 < 1920 → Sx K H (.int i) 4 (toString i)
  | str (x : Str) : (reprText x).length ≤ sizeLine → Sx K H (.str x) 4 (reprText x)
  | exc {a C t : Addr} {d : Option Addr} {c m : Str} : H a = some (ExT (.ref C) d t a) → H t = some (.tup [.str m]) → RpC K C c → Sx K H (.ref a) 4 (excT c m)
  | list {a : Addr} {xs : List V} {d : Nat} {ts : List Str} : SqL K H a xs → SxA K H xs d ts → Sx K H (.ref a) (d + 1) (listText ts)
  | tuple {a : Addr} {xs : List V} {d : Nat} {ts : List Str} : SqT K H a xs → SxA K H xs d ts → Sx K H (.ref a) (d + 1) (tupleText ts)
inductive SxA (K : Frag) (H : Hp) : List V → Nat → List Str → Prop
  | nil : SxA K H [] 4 []
  | cons {v : V} {vs : List V} {n d : Nat} {t : Str} {ts : List Str} : Sx K H v n t → SxA K H vs d ts → SxA K H (v :: vs) (max n d) (t :: ts)
end
section
variable {X : Cx} {pins : List (Addr × Obj)} {σ : L2.St} {H : Hp} {s : Shared}
mutual
theorem Sx.rx (I : Inv X pins σ H s) : ∀ {v : V} {n : Nat} {t : Str} {u : Value}, Sx X.K H v n t → RelV v u → XR.Rx X.K s.heap u n t
  | _, _, _, _, .non, r => by cases r; exact .non
  | _, _, _, _, .bl b, r => by cases r; exact .bl b
  | _, _, _, _, .int i z, r => by obtain ⟨t, rfl⟩ := r; exact .int i t z
  | _, _, _, _, .str x z, r => by obtain ⟨t, rfl⟩ := r; exact .str x t z
  | _, _, _, _, .exc (a := a) (C := C) (t := t) (d := d) (m := m) e1 e2 e3, r => by
    cases r
    have xa : ObjOk X.prog X.w H s.heap a (.ext fun h => ∃ (oe : Obj) (vs : Array Value), h.get? a = some oe ∧ Zc (.ref C) d oe ∧ oe.data = .fields vs ∧ vs[0]? = some (.ref t)) := I.hok a _ e1
    obtain ⟨oe, vs, h1, h2, h3, h4⟩ := xa.1
    obtain ⟨_, its, rv, o, h5, h6, n, h7⟩ := (show ObjOk X.prog X.w H s.heap t (.tup [.str m]) from I.hok t _ e2)
    obtain ⟨u, rfl, ru⟩ := vals1 rv
    obtain ⟨tk, rfl⟩ := ru
    obtain ⟨oC, cd, q1, q2, q3⟩ := nameIn_of e3.nm
    exact .exc ⟨C, t, oe, oC, vs, cd, m, tk, I.kIn, h1, h2.1, h3, h4, ⟨o, n, h5, h6, h7⟩, I.kIn _ _ q1, q2, e3.re, e3.sub, by rw [q3]; rfl⟩
  | _, _, _, _, .list hs ha, r => by
    cases r
    obtain ⟨its, rv, ⟨o, n, ho, hc, _, hd⟩, _⟩ := I.list hs
    exact .list ho hc hd (SxA.rx I ha rv)
  | _, _, _, _, .tuple hs ha, r => by
    cases r
    obtain ⟨its, rv, ⟨o, ho, hc, n, hd⟩, _⟩ := I.tuple hs
    exact .tuple ho hc hd (SxA.rx I ha rv)
theorem SxA.rx (I : Inv X pins σ H s) : ∀ {vs : List V} {n : Nat} {ts : List Str} {us : List Value}, SxA X.K H vs n ts → Vals vs us → XR.RxA X.K s.heap us n ts
  | _, _, _, _, .nil, r => by cases r; exact .nil
  | _, _, _, _, .cons x l, r => by
    cases r with
    | cons a b => exact .cons (Sx.rx I x a) (SxA.rx I l b)
end
end
noncomputable def rReprX (K : Frag) : List V → Hp → VK → Prop := fun xs H Q => ∃ x n t, xs = [x] ∧ Sx K H x n t ∧ n ≤ 60 ∧ t.length ≤ sizeLine ∧ Q (.str t) H
theorem cr_reprX {X : Cx} {k : Nat} (hr : RoomG k X.A) : CallR X (.builtin "repr") (rReprX X.K) := by
  intro pins s σ H xs us Q I r h
  obtain ⟨x, n, t, rfl, hd, h1, h2, q⟩ := h
  obtain ⟨u, rfl, rx⟩ := vals1 r
  have hu : X.A.units + (n + 1) < cLine := by
    have := hr.toRoom.un
    omega
  exact XR.call_repr_rx (hd.rx I rx) hr.gd hu h2 fun h' t tk hk => ⟨.str _, H, I.kept hk, ⟨t, rfl⟩, q⟩
noncomputable def mkOf : List (Str × Int) → Option Str
  | [p, q] => if p.1 == q.1 && (p.2 == 0 && q.2 == 1) then some p.1 else none
  | _ => none
theorem mkOf_mk {fs : List (Str × Int)} {m : Str} (h : mkOf fs = some m) : isMkd fs = true ∧ fs = mkd m := by
  match fs with
  | [p, q] =>
    obtain ⟨a, i⟩ := p
    obtain ⟨b, j⟩ := q
    replace h : (if (a == b && (i == 0 && j == 1)) = true then some a else none) = some m := h
    show (a == b && (i == 0 && j == 1)) = true ∧ _
    by_cases c : (a == b && (i == 0 && j == 1)) = true
    · rw [if_pos c] at h
      cases h
      refine ⟨c, ?_⟩
      simp at c
      obtain ⟨rfl, rfl, rfl⟩ := c
      rfl
    · rw [if_neg c] at h; cases h
  | [] => cases h
  | [_] => cases h
  | _ :: _ :: _ :: _ => cases h
theorem mkOf_mkd (m : Str) : mkOf (mkd m) = some m := by
  unfold mkOf mkd
  simp
mutual
noncomputable def shD (cs : List Str) : D → Option (Nat × Str)
  | .non => some (4, "None")
  | .bl b => some (4, if b then "True" else "False")
  | .int i => if i.natAbs.log2 < 1920 then some (4, toString i) else none
  | .str x => if (reprText x).length ≤ sizeLine then some (4, reprText x) else none
  | .tup ds => (shDs cs ds).map fun p => (p.1 + 1, tupleText p.2)
  | .lst ds => (shDs cs ds).map fun p => (p.1 + 1, listText p.2)
  | .cell _ => none
  | .glo _ => none
  | .exn c fs => if c ∈ cs then (mkOf fs).map fun m => (4, excT c m) else none
noncomputable def shDs (cs : List Str) : List D → Option (Nat × List Str)
  | [] => some (4, [])
  | d :: ds => (shD cs d).bind fun p => (shDs cs ds).map fun q => (max p.1 q.1, p.2 :: q.2)
end
section
variable {F : Fx} {μ : List Addr} {H : Hp} {cs : List Str}
mutual
theorem sx_of (T : RpOk F.K F.mg cs) : ∀ {v : V} (d : D) {p : Nat × Str}, RD F μ H v d → shD cs d = some p → Sx F.K H v p.1 p.2
  | _, .non, p, r, e => by cases r; unfold shD at e; cases e; exact .non
  | _, .bl b, p, r, e => by cases r; unfold shD at e; cases e; exact .bl b
  | _, .int i, p, r, e => by
    cases r
    unfold shD at e
    split at e
    · rename_i h
      cases e; exact .int i h
    · cases e
  | _, .str x, p, r, e => by
    cases r
    unfold shD at e
    split at e
    · rename_i h
      cases e; exact .str x h
    · cases e
  | _, .tup ds, p, r, e => by
    cases r with
    | tup f r =>
      unfold shD at e
      cases q : shDs cs ds with
      | none => rw [q] at e; cases e
      | some z =>
        rw [q] at e
        cases e
        exact .tuple f.sq (sxs_of T ds r q)
  | _, .lst ds, p, r, e => by
    cases r with
    | lst f r =>
      unfold shD at e
      cases q : shDs cs ds with
      | none => rw [q] at e; cases e
      | some z =>
        rw [q] at e
        cases e
        exact .list f.sq (sxs_of T ds r q)
  | _, .cell _, p, r, e => by unfold shD at e; cases e
  | _, .glo _, p, r, e => by unfold shD at e; cases e
  | _, .exn c fs, p, r, e => by
    cases r with
    | exn f =>
      unfold shD at e
      split at e
      · rename_i hc
        cases q : mkOf fs with
        | none => rw [q] at e; cases e
        | some m =>
          rw [q] at e
          cases e
          obtain ⟨im, rfl⟩ := mkOf_mk q
          rcases f with ⟨nm, _⟩ | ⟨m', em, cls, dd, t, ⟨z1, z2⟩, ⟨h1, h2, h3⟩, ⟨t1, t2, t3⟩, h4⟩
          · rw [im] at nm; cases nm
          · have := mkOf_mkd m'
            rw [← em, mkOf_mkd] at this
            obtain rfl : m = m' := Option.some.inj this
            obtain ⟨C, g1, g2⟩ := T.ex c hc
            obtain rfl : cls = .ref C := Option.some.inj (z1.symm.trans g1)
            exact .exc h1 t1 g2
      · cases e
theorem sxs_of (T : RpOk F.K F.mg cs) : ∀ {vs : List V} (ds : List D) {p : Nat × List Str}, RDs F μ H vs ds → shDs cs ds = some p → SxA F.K H vs p.1 p.2
  | _, [], p, r, e => by cases r; unfold shDs at e; cases e; exact .nil
  | _, d :: ds, p, r, e => by
    cases r with
    | cons a b =>
      unfold shDs at e
      cases q : shD cs d with
      | none => rw [q] at e; cases e
      | some z =>
        rw [q] at e
        cases q2 : shDs cs ds with
        | none => rw [q2] at e; cases e
        | some z2 =>
          rw [q2] at e
          cases e
          exact .cons (sx_of T d a q) (sxs_of T ds b q2)
end
end
noncomputable def gReprX (cs : List Str) : Sto → List D → Option D := fun _ ds => match ds with
  | [x] => match shD cs x with
    | some p => if p.1 ≤ 60 ∧ p.2.length ≤ sizeLine then some (.str p.2) else none
    | none => none
  | _ => none
theorem c_reprX {X : Cx} {cs : List Str} (T : RpOk X.K X.mg cs) : CallD X (rReprX X.K) (gReprX cs) := by
  intro ξ μ H S ds vs z Q s r e k
  unfold gReprX at e
  cases r with
  | nil => exact nomatch e
  | @cons v vs d ds r rr =>
    cases rr with
    | cons _ _ => exact nomatch e
    | nil =>
      simp only at e
      cases q : shD cs d with
      | none => simp only [q] at e; exact nomatch e
      | some p =>
        simp only [q] at e
        split at e
        · rename_i hp
          cases e
          exact ⟨v, _, _, rfl, sx_of (F := fx X ξ) T d r q, hp.1, hp.2, k _ μ H .refl s (.str _)⟩
        · exact nomatch e
end Dm
namespace Dm
open PySem L2
noncomputable section
noncomputable def m_is_integer : List D → Sto → Res D := mDef 1 1 (mRet (mAnd (mIsi .int (mVar 0)) (mNot (mIsi .bl (mVar 0)))))
noncomputable def m_is_zone : List D → Sto → Res D := mDef 1 5 (mSeq (mIfS (mOr (mNot (mIsi .tup (mVar 0))) (mOp gNe (mCallB gLen (mCons (mVar 0) mNil)) (mK (.int 2)))) (mRet (mK (.bl false))) mNop) (mSeq (mAsgG (tgT 2 (tgCons (tgN 1) (tgCons (tgN 2) tgNil))) (mVar 0)) (mSeq (mIfS (mOr (mNot (mIsi .tup (mVar 1))) (mNot (mChain gLe gLe (mK (.int 1)) (mCallB gLen (mCons (mVar 1) mNil)) (mK (.int 3))))) (mRet (mK (.bl false))) mNop) (mSeq (mFor (iSeq (mVar 1)) (tgN 3) (mIfS (mOr (mNot (mCall m_is_integer (mCons (mVar 3) mNil))) (mNot (mChain gLe gLe (mUn gNeg (mK (.int 900))) (mVar 3) (mK (.int 900))))) (mRet (mK (.bl false))) mNop)) (mSeq (mFor (iRange2 (mCons (mK (.int 1)) (mCons (mCallB gLen (mCons (mVar 1) mNil)) mNil))) (tgN 4) (mIfS (mOp gLe (mOp gIx (mVar 1) (mVar 4)) (mOp gIx (mVar 1) (mOp gSub (mVar 4) (mK (.int 1))))) (mRet (mK (.bl false))) mNop)) (mRet (mAnd (mCall m_is_integer (mCons (mVar 2) mNil)) (mChain gLt gLe (mOp gSub (mOp gIx (mVar 1) (mK (.int (-1)))) (mOp gIx (mVar 1) (mK (.int 0)))) (mVar 2) (mK (.int 1000000))))))))))
noncomputable def m_need_zone : List D → Sto → Res D := mDef 1 1 (mIfS (mNot (mCall m_is_zone (mCons (mVar 0) mNil))) (mRaise "InvalidZone") mNop)
noncomputable def m_need_number : List D → Sto → Res D := mDef 1 1 (mIfS (mNot (mCall m_is_integer (mCons (mVar 0) mNil))) (mRaise "InvalidNumber") mNop)
noncomputable def m_is_offset : List D → Sto → Res D := mDef 2 2 (mRet (mAnd (mCall m_is_integer (mCons (mVar 1) mNil)) (mOp (gIn false) (mVar 1) (mOp gIx (mVar 0) (mK (.int 0))))))
noncomputable def m_is_mark : List D → Sto → Res D := mDef 2 2 (mRet (mAnd (mIsi .tup (mVar 1)) (mAnd (mOp gEq (mCallB gLen (mCons (mVar 1) mNil)) (mK (.int 2))) (mAnd (mCall m_is_integer (mCons (mOp gIx (mVar 1) (mK (.int 0))) mNil)) (mCall m_is_offset (mCons (mVar 0) (mCons (mOp gIx (mVar 1) (mK (.int 1))) mNil)))))))
noncomputable def m_is_table : List D → Sto → Res D := mDef 2 6 (mSeq (mDrop (mCall m_need_zone (mCons (mVar 0) mNil))) (mSeq (mIfS (mOr (mNot (mIsi .tup (mVar 1))) (mOr (mOp gNe (mCallB gLen (mCons (mVar 1) mNil)) (mK (.int 2))) (mNot (mCall m_is_offset (mCons (mVar 0) (mCons (mOp gIx (mVar 1) (mK (.int 0))) mNil)))))) (mRet (mK (.bl false))) mNop) (mSeq (mAsgG (tgT 2 (tgCons (tgN 2) (tgCons (tgN 3) tgNil))) (mVar 1)) (mSeq (mIfS (mNot (mIsi .tup (mVar 3))) (mRet (mK (.bl false))) mNop) (mSeq (mFor (iEnumS (mVar 3)) (tgT 2 (tgCons (tgN 4) (tgCons (tgN 5) tgNil))) (mSeq (mIfS (mOr (mNot (mCall m_is_mark (mCons (mVar 0) (mCons (mVar 5) mNil)))) (mOp gEq (mOp gIx (mVar 5) (mK (.int 1))) (mVar 2))) (mRet (mK (.bl false))) mNop) (mSeq (mIfS (mAnd (mOp gGt (mVar 4) (mK (.int 0))) (mOp gLt (mOp gSub (mOp gIx (mVar 5) (mK (.int 0))) (mOp gIx (mOp gIx (mVar 3) (mOp gSub (mVar 4) (mK (.int 1)))) (mK (.int 0)))) (mOp gIx (mVar 0) (mK (.int 1))))) (mRet (mK (.bl false))) mNop) (mAsg 2 (mOp gIx (mVar 5) (mK (.int 1))))))) (mRet (mK (.bl true))))))))
noncomputable def m_need_table : List D → Sto → Res D := mDef 2 2 (mIfS (mNot (mCall m_is_table (mCons (mVar 0) (mCons (mVar 1) mNil)))) (mRaise "InvalidTable") mNop)
noncomputable def m_law_whole : List D → Sto → Res D := mDef 1 1 (mRet (mAnd (mIsi .int (mVar 0)) (mNot (mIsi .bl (mVar 0)))))
noncomputable def m_law_same : Nat → List D → Sto → Res D
  | 0 => fun _ _ => .bad
  | n + 1 => mDef 2 3 (mSeq (mIfS (mIsiT [.tup, .lst] (mVar 1)) (mSeq (mIfS (mOr (mNot (mIsiT [.tup, .lst] (mVar 0))) (mOp gNe (mIsi .lst (mVar 0)) (mIsi .lst (mVar 1)))) (mRet (mK (.bl false))) mNop) (mRet (mAnd (mOp gEq (mCallB gLen (mCons (mVar 0) mNil)) (mCallB gLen (mCons (mVar 1) mNil))) (mCallB gAll (mCons (mFz (mLc (iRange1 (mCons (mCallB gLen (mCons (mVar 1) mNil)) mNil)) (tgN 2) mYes (mCall (m_law_same n) (mCons (mOp gIx (mVar 0) (mVar 2)) (mCons (mOp gIx (mVar 1) (mVar 2)) mNil))) [2])) mNil))))) mNop) (mSeq (mIfS (mOp (gIsN false) (mVar 1) (mK .non)) (mRet (mOp (gIsN false) (mVar 0) (mK .non))) mNop) (mSeq (mIfS (mIsi .bl (mVar 1)) (mRet (mAnd (mIsi .bl (mVar 0)) (mOp gEq (mVar 0) (mVar 1)))) mNop) (mSeq (mIfS (mIsi .int (mVar 1)) (mRet (mAnd (mCall m_law_whole (mCons (mVar 0) mNil)) (mOp gEq (mVar 0) (mVar 1)))) mNop) (mSeq (mIfS (mIsi .str (mVar 1)) (mRet (mAnd (mIsi .str (mVar 0)) (mOp gEq (mVar 0) (mVar 1)))) mNop) (mRet (mAnd (mNot (mIsiT [.tup, .lst, .int, .str] (mVar 0))) (mOp (gIsN true) (mVar 0) (mK .non)))))))))
end
end Dm
namespace Dm
open PySem L2
end Dm
namespace Dm
open PySem L2
end Dm
namespace Dm
open PySem L2
end Dm
namespace Dm
open PySem L2
end Dm
namespace Dm
open PySem L2
end Dm
namespace Dm
open PySem L2 PySem.Spec PyProof.Rows
open PySem.W (Frag)
noncomputable def mPar3 (i j l : Nat) (a : MA) : MS := fun ρ S => ofRes (a ρ S) ρ fun ds S1 => match ds with
  | [d, d', d''] => .nx (((ρ.set i (some d)).set j (some d')).set l (some d'')) S1
  | _ => .bad
section
variable {S : Sto} {ρ : Rho} {N B C : Rho → Sto → Prop} {R : D → Sto → Prop} {E : EX} {EO : EXO}
@[simp] theorem does_par3 {i j l : Nat} {a : MA} : (mPar3 i j l a ρ S).DoesE EO N R B C = (a ρ S).DoesE (eAt EO ρ) fun ds S1 => match ds with
    | [d, d', d''] => N (((ρ.set i (some d)).set j (some d')).set l (some d'')) S1
    | _ => False := by
  unfold mPar3
  rw [does_ofRes]; congr 1; funext ds S1
  match ds with
  | [] => rfl
  | [_] => rfl
  | [_, _] => rfl
  | [_, _, _] => rfl
  | _ :: _ :: _ :: _ :: _ => rfl
@[simp] theorem does_tbin {neg : Bool} {kvs : List (Str × D)} {a : ME} {Q : D → Sto → Prop} : (mTbIn neg kvs a ρ S).DoesE E Q = (a ρ S).DoesE E fun x S1 => match x with
    | .str z => Q (.bl (if neg then !(tbLook kvs z).isSome else (tbLook kvs z).isSome)) S1
    | _ => False := by
  unfold mTbIn
  rw [does_bind]; congr 1; funext x S1
  cases x <;> rfl
@[simp] theorem does_tbix {kvs : List (Str × D)} {a : ME} {Q : D → Sto → Prop} : (mTbIx kvs a ρ S).DoesE E Q = (a ρ S).DoesE E fun x S1 => match x with
    | .str z => ∃ d, tbLook kvs z = some d ∧ Q d S1
    | _ => False := by
  unfold mTbIx
  rw [does_bind]; congr 1; funext x S1
  cases x with
  | str z =>
    simp only
    cases e : tbLook kvs z with
    | some d => simp
    | none => exact propext ⟨fun h => h.elim, fun ⟨_, h, _⟩ => nomatch h⟩
  | _ => rfl
end
end Dm
namespace Dm
open PySem L2
noncomputable section
noncomputable def m_is_zones : List D → Sto → Res D := mDef 1 2 (mSeq (mIfS (mOr (mNot (mIsi .tup (mVar 0))) (mNot (mChain gLe gLe (mK (.int 1)) (mCallB gLen (mCons (mVar 0) mNil)) (mK (.int 2))))) (mRet (mK (.bl false))) mNop) (mRet (mCallB gAll (mCons (mFz (mLcA (mVar 0) (tgN 1) mYes (mCall m_is_zone (mCons (mVar 1) mNil)) [1])) mNil))))
noncomputable def m_need_zones : List D → Sto → Res D := mDef 1 1 (mIfS (mNot (mCall m_is_zones (mCons (mVar 0) mNil))) (mRaise "InvalidZones") mNop)
noncomputable def m_is_part : List D → Sto → Res D := mDef 4 4 (mSeq (mIfS (mOp gEq (mVar 2) (mK (.str "fold"))) (mRet (mAnd (mIsi .str (mVar 3)) (mOp (gIn false) (mVar 3) (mK (.tup [(.str "early"), (.str "late"), (.str "refuse")]))))) mNop) (mSeq (mIfS (mOp gEq (mVar 2) (mK (.str "gap"))) (mRet (mAnd (mIsi .str (mVar 3)) (mOp (gIn false) (mVar 3) (mK (.tup [(.str "ahead"), (.str "behind"), (.str "refuse")]))))) mNop) (mSeq (mIfS (mNot (mCall m_is_integer (mCons (mVar 3) mNil))) (mRet (mK (.bl false))) mNop) (mSeq (mIfS (mOp gEq (mVar 2) (mK (.str "place"))) (mRet (mChain gLe gLt (mK (.int 0)) (mVar 3) (mCallB gLen (mCons (mVar 0) mNil)))) mNop) (mSeq (mIfS (mOp gEq (mVar 2) (mK (.str "minutes"))) (mRet (mChain gLe gLe (mUn gNeg (mK (.int 100000))) (mVar 3) (mK (.int 100000)))) mNop) (mSeq (mIfS (mNot (mChain gLe gLt (mK (.int 0)) (mVar 3) (mCallB gLen (mCons (mVar 1) mNil)))) (mRet (mK (.bl false))) mNop) (mSeq (mIfS (mOp gEq (mVar 2) (mK (.str "point"))) (mRet (mOp gNe (mOp gIx (mVar 1) (mVar 3)) (mK (.str "span")))) mNop) (mRet (mOp gEq (mOp gIx (mVar 1) (mVar 3)) (mVar 2))))))))))
noncomputable def m_is_step : List D → Sto → Res D := mDef 3 6 (mSeq (mIfS (mOr (mNot (mIsi .tup (mVar 2))) (mOp gEq (mCallB gLen (mCons (mVar 2) mNil)) (mK (.int 0)))) (mRet (mK (.bl false))) mNop) (mSeq (mIfS (mOr (mNot (mIsi .str (mOp gIx (mVar 2) (mK (.int 0))))) (mTbIn true [("read", (.tup [(.str "moment"), (.str "place")])), ("find", (.tup [(.str "reading"), (.str "place"), (.str "fold"), (.str "gap")])), ("offset", (.tup [(.str "moment"), (.str "place")])), ("edition", (.tup [(.str "moment"), (.str "place")])), ("plus", (.tup [(.str "moment"), (.str "span")])), ("less", (.tup [(.str "reading"), (.str "span")])), ("add", (.tup [(.str "point"), (.str "minutes")]))] (mOp gIx (mVar 2) (mK (.int 0))))) (mRet (mK (.bl false))) mNop) (mSeq (mAsg 3 (mTbIx [("read", (.tup [(.str "moment"), (.str "place")])), ("find", (.tup [(.str "reading"), (.str "place"), (.str "fold"), (.str "gap")])), ("offset", (.tup [(.str "moment"), (.str "place")])), ("edition", (.tup [(.str "moment"), (.str "place")])), ("plus", (.tup [(.str "moment"), (.str "span")])), ("less", (.tup [(.str "reading"), (.str "span")])), ("add", (.tup [(.str "point"), (.str "minutes")]))] (mOp gIx (mVar 2) (mK (.int 0))))) (mSeq (mIfS (mOp gNe (mCallB gLen (mCons (mVar 2) mNil)) (mOp gAdd (mCallB gLen (mCons (mVar 3) mNil)) (mK (.int 1)))) (mRet (mK (.bl false))) mNop) (mRet (mCallB gAll (mCons (mFz (mLc (iEnumS (mVar 3)) (tgU 2 (tgCons (tgN 4) (tgCons (tgN 5) tgNil))) mYes (mCall m_is_part (mCons (mVar 0) (mCons (mVar 1) (mCons (mVar 5) (mCons (mOp gIx (mVar 2) (mOp gAdd (mVar 4) (mK (.int 1)))) mNil))))) [4, 5])) mNil)))))))
noncomputable def m_kind_made : List D → Sto → Res D := mDef 2 2 (mSeq (mIfS (mOp gEq (mOp gIx (mVar 1) (mK (.int 0))) (mK (.str "add"))) (mRet (mOp gIx (mVar 0) (mOp gIx (mVar 1) (mK (.int 1))))) mNop) (mRet (mTbIx [("read", (.str "reading")), ("find", (.str "moment")), ("offset", (.str "span")), ("edition", (.str "moment")), ("plus", (.str "reading")), ("less", (.str "moment"))] (mOp gIx (mVar 1) (mK (.int 0))))))
noncomputable def m_kinds_of : List D → Sto → Res D := mDef 1 3 (mSeq (mAsg 1 (mNew (mLst (mCons (mK (.str "moment")) mNil)))) (mSeq (mForA (mVar 0) (tgN 2) (mApp (mVar 1) (mCall m_kind_made (mCons (mVar 1) (mCons (mVar 2) mNil))))) (mRet (mVar 1))))
noncomputable def m_is_program : List D → Sto → Res D := mDef 2 4 (mSeq (mDrop (mCall m_need_zones (mCons (mVar 0) mNil))) (mSeq (mIfS (mOr (mNot (mIsi .tup (mVar 1))) (mOp gGt (mCallB gLen (mCons (mVar 1) mNil)) (mK (.int 8)))) (mRet (mK (.bl false))) mNop) (mSeq (mAsg 2 (mNew (mLst (mCons (mK (.str "moment")) mNil)))) (mSeq (mForA (mVar 1) (tgN 3) (mSeq (mIfS (mNot (mCall m_is_step (mCons (mVar 0) (mCons (mVar 2) (mCons (mVar 3) mNil))))) (mRet (mK (.bl false))) mNop) (mApp (mVar 2) (mCall m_kind_made (mCons (mVar 2) (mCons (mVar 3) mNil)))))) (mRet (mOp gLt (mCallB gLen (mCons (mFz (mLcA (mVar 1) (tgN 3) (mOp gEq (mOp gIx (mVar 3) (mK (.int 0))) (mK (.str "edition"))) (mVar 3) [3])) mNil)) (mK (.int 2))))))))
noncomputable def m_need_program : List D → Sto → Res D := mDef 2 2 (mIfS (mNot (mCall m_is_program (mCons (mVar 0) (mCons (mVar 1) mNil)))) (mRaise "InvalidProgram") mNop)
end
end Dm
namespace Dm
open PySem L2 PySem.Spec PyProof.Rows
open PySem.W (Frag)
section
variable {X : Cx} {W : WX}
noncomputable def mClear (o : ME) : MS := fun ρ S => ofRes (o ρ S) ρ fun x S1 => match x with
  | .cell n => match S1[n]? with
    | some (.lst _) => .nx ρ (S1.set n (.lst []))
    | _ => .bad
  | _ => .bad
end
section
variable {S : Sto} {ρ : Rho} {N B C : Rho → Sto → Prop} {R : D → Sto → Prop} {E : EX} {EO : EXO}
@[simp] theorem does_clear {o : ME} : (mClear o ρ S).DoesE EO N R B C = (o ρ S).DoesE (eAt EO ρ) fun x S1 => match x with
    | .cell n => (∃ xs, S1[n]? = some (.lst xs)) ∧ N ρ (S1.set n (.lst []))
    | _ => False := by
  unfold mClear
  rw [does_ofRes]; congr 1; funext x S1
  cases x with
  | cell n =>
    simp only
    cases q : S1[n]? with
    | none => exact propext ⟨fun h => h.elim, fun ⟨⟨_, h⟩, _⟩ => nomatch h⟩
    | some c =>
      cases c with
      | lst ds => exact propext ⟨fun h => ⟨⟨_, rfl⟩, h⟩, fun h => h.2⟩
      | _ => exact propext ⟨fun h => h.elim, fun ⟨⟨_, h⟩, _⟩ => nomatch h⟩
  | _ => rfl
end
end Dm
namespace Dm
open PySem L2
end Dm
namespace Dm
open PySem L2
end Dm
namespace Dm
open PySem L2
open PySem.W (Frag)
noncomputable def lcL2 (f : D → Rho → Option Rho) (mt : ME) (mi1 : ME) (f1 : D → Rho → Option Rho) (mt1 me : ME) (vs1 : List Nat) (ρ : Rho) : List D → Sto → Option (List D × Sto)
  | [], S => some ([], S)
  | d :: r, S => match f d ρ with
    | none => none
    | some ρ1 => match mt ρ1 S with
      | .ok (.bl true) S1 => match iAny mi1 ρ1 S1 with
        | .ok p1 S2 => match lcA p1.1 f1 mt1 me (wipeD ρ1 vs1) (p1.2 + 1) 0 S2 with
          | some (ys, S3) => match lcL2 f mt mi1 f1 mt1 me vs1 ρ r S3 with
            | some (zs, S4) => some (ys ++ zs, S4)
            | none => none
          | none => none
        | _ => none
      | .ok (.bl false) S1 => lcL2 f mt mi1 f1 mt1 me vs1 ρ r S1
      | _ => none
noncomputable def mLc2 (mi : MA) (f : D → Rho → Option Rho) (mt : ME) (mi1 : ME) (f1 : D → Rho → Option Rho) (mt1 me : ME) (vs vs1 : List Nat) : MA := fun ρ S => (mi ρ S).bind fun ds S1 => match lcL2 f mt mi1 f1 mt1 me vs1 (wipeD ρ vs) ds S1 with
  | some (ys, S2) => if ys.length ≤ 16777216 then .ok ys S2 else .bad
  | none => .bad
noncomputable def lcA2 (d : D) (f : D → Rho → Option Rho) (mt : ME) (mi1 : ME) (f1 : D → Rho → Option Rho) (mt1 me : ME) (vs1 : List Nat) (ρ : Rho) : Nat → Nat → Sto → Option (List D × Sto)
  | 0, _, _ => none
  | k + 1, i, S => match seqOf S d with
    | none => none
    | some ds => match ds[i]? with
      | none => if i = ds.length then some ([], S) else none
      | some x => match f x ρ with
        | none => none
        | some ρ1 => match mt ρ1 S with
          | .ok (.bl true) S1 => match iAny mi1 ρ1 S1 with
            | .ok p1 S2 => match lcA p1.1 f1 mt1 me (wipeD ρ1 vs1) (p1.2 + 1) 0 S2 with
              | some (ys, S3) => match lcA2 d f mt mi1 f1 mt1 me vs1 ρ k (i + 1) S3 with
                | some (zs, S4) => some (ys ++ zs, S4)
                | none => none
              | none => none
            | _ => none
          | .ok (.bl false) S1 => lcA2 d f mt mi1 f1 mt1 me vs1 ρ k (i + 1) S1
          | _ => none
noncomputable def mLcA2 (m : ME) (f : D → Rho → Option Rho) (mt : ME) (mi1 : ME) (f1 : D → Rho → Option Rho) (mt1 me : ME) (vs vs1 : List Nat) : MA := fun ρ S => (iAny m ρ S).bind fun p S1 => match lcA2 p.1 f mt mi1 f1 mt1 me vs1 (wipeD ρ vs) (p.2 + 1) 0 S1 with
  | some (ys, S2) => if ys.length ≤ 16777216 then .ok ys S2 else .bad
  | none => .bad
theorem Mv.comp {F : Fx} {μ μ1 μ2 : List Addr} {H H1 H2 : Hp} (a : Mv F μ H F μ1 H1) (b : Mv F μ1 H1 F μ2 H2) : Mv F μ H F μ2 H2 := ⟨fun h => b.t (a.t h), fun h => b.l (a.l h), fun h => b.c (a.c h), rfl, fun h => b.x (a.x h)⟩
section
variable {S : Sto} {ρ : Rho} {f f1 : D → Rho → Option Rho} {mt mt1 me : ME} {mi : MA} {mi1 : ME} {E : EX}
noncomputable def LcQ2 (f : D → Rho → Option Rho) (mt : ME) (mi1 : ME) (f1 : D → Rho → Option Rho) (mt1 me : ME) (vs1 : List Nat) (ρ : Rho) (ds : List D) (S : Sto) (Q : List D → Sto → Prop) : Prop := ∃ ys S2, lcL2 f mt mi1 f1 mt1 me vs1 ρ ds S = some (ys, S2) ∧ Q ys S2
@[simp] theorem does_lc2 {vs vs1 : List Nat} {Q : List D → Sto → Prop} : (mLc2 mi f mt mi1 f1 mt1 me vs vs1 ρ S).DoesE E Q = (mi ρ S).DoesE E fun ds S1 => LcQ2 f mt mi1 f1 mt1 me vs1 (wipeD ρ vs) ds S1 fun ys S2 => ys.length ≤ 16777216 ∧ Q ys S2 := by
  unfold mLc2
  rw [does_bind]
  congr 1
  funext ds S1
  unfold LcQ2
  cases e : lcL2 f mt mi1 f1 mt1 me vs1 (wipeD ρ vs) ds S1 with
  | none => refine propext ⟨fun h => h.elim, fun ⟨_, _, h, _⟩ => nomatch h⟩
  | some r =>
    obtain ⟨ys, S2⟩ := r
    refine propext ⟨fun q => ?_, ?_⟩
    · simp only at q
      by_cases c : ys.length ≤ 16777216
      · rw [if_pos c] at q
        exact ⟨ys, S2, rfl, c, q⟩
      · rw [if_neg c] at q
        exact q.elim
    · rintro ⟨ys', S2', e', c, q⟩
      cases e'
      simp only
      rw [if_pos c]
      exact q
noncomputable def LcAQ2 (d : D) (f : D → Rho → Option Rho) (mt : ME) (mi1 : ME) (f1 : D → Rho → Option Rho) (mt1 me : ME) (vs1 : List Nat) (ρ : Rho) (n : Nat) (S : Sto) (Q : List D → Sto → Prop) : Prop := ∃ ys S2, lcA2 d f mt mi1 f1 mt1 me vs1 ρ (n + 1) 0 S = some (ys, S2) ∧ Q ys S2
@[simp] theorem does_lcA2 {m : ME} {vs vs1 : List Nat} {Q : List D → Sto → Prop} : (mLcA2 m f mt mi1 f1 mt1 me vs vs1 ρ S).DoesE E Q = (m ρ S).DoesE E fun d S1 => match seqOf S1 d with
    | some ds => LcAQ2 d f mt mi1 f1 mt1 me vs1 (wipeD ρ vs) ds.length S1 fun ys S2 => ys.length ≤ 16777216 ∧ Q ys S2
    | none => False := by
  unfold mLcA2 iAny
  rw [does_bind, does_bind]
  congr 1
  funext d S1
  cases seqOf S1 d with
  | none => rfl
  | some ds =>
    simp only [does_ok]
    unfold LcAQ2
    cases e : lcA2 d f mt mi1 f1 mt1 me vs1 (wipeD ρ vs) (ds.length + 1) 0 S1 with
    | none => refine propext ⟨fun h => h.elim, fun ⟨_, _, h, _⟩ => nomatch h⟩
    | some r =>
      obtain ⟨ys, S2⟩ := r
      refine propext ⟨fun q => ?_, ?_⟩
      · simp only at q
        by_cases c : ys.length ≤ 16777216
        · rw [if_pos c] at q
          exact ⟨ys, S2, rfl, c, q⟩
        · rw [if_neg c] at q
          exact q.elim
      · rintro ⟨ys', S2', e', c, q⟩
        cases e'
        simp only
        rw [if_pos c]
        exact q
end
end Dm
namespace Dm
open PySem L2
end Dm
namespace Dm
open PySem L2
open PySem.W (Frag)
section
variable {X : Cx} {W : WX}
noncomputable def mPopS (o : ME) : MS := fun ρ S => ofRes (o ρ S) ρ fun x S1 => match x with
  | .cell n => match S1[n]? with
    | some (.lst ds) => if ds = [] then .bad else .nx ρ (S1.set n (.lst ds.dropLast))
    | _ => .bad
  | _ => .bad
noncomputable def mRevS (o : ME) : MS := fun ρ S => ofRes (o ρ S) ρ fun x S1 => match x with
  | .cell n => match S1[n]? with
    | some (.lst ds) => .nx ρ (S1.set n (.lst ds.reverse))
    | _ => .bad
  | _ => .bad
end
section
variable {S : Sto} {ρ : Rho} {N B C : Rho → Sto → Prop} {R : D → Sto → Prop} {EO : EXO}
@[simp] theorem does_popS {o : ME} : (mPopS o ρ S).DoesE EO N R B C = (o ρ S).DoesE (eAt EO ρ) fun x S1 => match x with
    | .cell n => ∃ xs, S1[n]? = some (.lst xs) ∧ xs ≠ [] ∧ N ρ (S1.set n (.lst xs.dropLast))
    | _ => False := by
  unfold mPopS
  rw [does_ofRes]; congr 1; funext x S1
  cases x with
  | cell n =>
    simp only
    cases q : S1[n]? with
    | none => exact propext ⟨fun h => h.elim, fun ⟨_, h, _⟩ => nomatch h⟩
    | some c =>
      cases c with
      | lst ds =>
        by_cases hd : ds = []
        · simp only [if_pos hd]
          refine propext ⟨fun h => h.elim, fun ⟨xs, h, h2, _⟩ => ?_⟩
          cases h
          exact absurd hd h2
        · simp only [if_neg hd]
          refine propext ⟨fun h => ⟨ds, rfl, hd, h⟩, fun ⟨xs, h, _, h3⟩ => ?_⟩
          cases h
          exact h3
      | _ => exact propext ⟨fun h => h.elim, fun ⟨_, h, _⟩ => nomatch h⟩
  | _ => rfl
@[simp] theorem does_revS {o : ME} : (mRevS o ρ S).DoesE EO N R B C = (o ρ S).DoesE (eAt EO ρ) fun x S1 => match x with
    | .cell n => ∃ xs, S1[n]? = some (.lst xs) ∧ N ρ (S1.set n (.lst xs.reverse))
    | _ => False := by
  unfold mRevS
  rw [does_ofRes]; congr 1; funext x S1
  cases x with
  | cell n =>
    simp only
    cases q : S1[n]? with
    | none => exact propext ⟨fun h => h.elim, fun ⟨_, h, _⟩ => nomatch h⟩
    | some c =>
      cases c with
      | lst ds =>
        refine propext ⟨fun h => ⟨ds, rfl, h⟩, fun ⟨xs, h, h3⟩ => ?_⟩
        cases h
        exact h3
      | _ => exact propext ⟨fun h => h.elim, fun ⟨_, h, _⟩ => nomatch h⟩
  | _ => rfl
end
end Dm
namespace Dm
open PySem L2
end Dm
namespace Dm
open PySem L2 PySem.Spec PyProof.Rows
open PySem.W (Frag)
section
variable {X : Cx} {W : WX} {tg a b : Expr} {ma mb : ME} {pos : Pos} {E : EX}
noncomputable def mCatW (a b : ME) : MA := fun ρ S => (a ρ S).bind fun x S1 => (b ρ S1).bind fun y S2 => match lstOf S2 x, lstOf S2 y with
  | some xs, some ys => if xs.length + ys.length ≤ 16777216 then .ok (xs ++ ys) S2 else .bad
  | _, _ => .bad
variable {ρ : Rho} {S : Sto}
@[simp] theorem does_catW {a b : ME} {Q : List D → Sto → Prop} : (mCatW a b ρ S).DoesE E Q = (a ρ S).DoesE E fun x S1 => (b ρ S1).DoesE E fun y S2 => match lstOf S2 x, lstOf S2 y with
    | some xs, some ys => xs.length + ys.length ≤ 16777216 ∧ Q (xs ++ ys) S2
    | _, _ => False := by
  unfold mCatW
  rw [does_bind]; congr 1; funext x S1
  rw [does_bind]; congr 1; funext y S2
  cases e : lstOf S2 x with
  | none => simp [Res.DoesE]
  | some xs =>
    cases e' : lstOf S2 y with
    | none => simp [Res.DoesE]
    | some ys =>
      simp only
      by_cases h : xs.length + ys.length ≤ 16777216
      · rw [if_pos h]; simp [h]
      · rw [if_neg h]; simp [h, Res.DoesE]
end
end Dm
namespace Dm
open PySem L2
end Dm
namespace Dm
open PySem L2 PySem.Spec PyProof.Rows
open PySem.W (Frag)
noncomputable def gMulT : Sto → D → D → Option D := fun _ x y => match x, y with
  | .tup ds, .int k => if ds.length ≠ 0 ∧ 2 ≤ k ∧ k ≤ 1000 ∧ ds.length ≤ 1000 then some (.tup (List.replicate k.toNat ds).flatten) else none
  | _, _ => none
@[simp] theorem gMulT_tup {S : Sto} {ds : List D} {k : Int} : gMulT S (.tup ds) (.int k) = if ds.length ≠ 0 ∧ 2 ≤ k ∧ k ≤ 1000 ∧ ds.length ≤ 1000 then some (.tup (List.replicate k.toNat ds).flatten) else none := rfl
end Dm
namespace Dm
open PySem L2
end Dm
namespace Dm
open PySem L2 PySem.Spec PyProof.Rows
open PySem.W (Frag)
section
variable {X : Cx} {W : WX} {a o e f : Expr} {mo me mf ma : ME} {apos cpos pos p2 : Pos}
noncomputable def mGet2 (mo mk mx : ME) : ME := fun ρ S => (mo ρ S).bind fun d S1 => match dicOf S1 d with
  | none => .bad
  | some _ => (mk ρ S1).bind fun y S2 => (mx ρ S2).bind fun z S3 => match dicOf S3 d, keyD y with
    | some kvs, some k => .ok ((valD kvs k).getD z) S3
    | _, _ => .bad
theorem d_get (hu : X.A.units + 64 < cLine) (ho : DE X W o mo) (he : DE X W e me) (hf : DE X W f mf) (h1 : attributeBase o "get" X.env (eval o X.env) = eval o X.env := by rfl)
    (h2 : ((backTo cpos (starEach [e, f] X.env)).all (fun x => !x.1) && (backToKw cpos (keywordEach [] X.env)).all (fun x => x.1.isSome) && decide (([e, f] : List Expr).length + ([] : List Keyword).length + (if ([] : List Keyword).isEmpty then 0 else 1) < 30)) = true := by rfl)
    (h3 : (apos.endLine == cpos.line) = true := by rfl) (h4 : backTo cpos (starEach [e, f] X.env) = [(false, eval e X.env), (false, eval f X.env)] := by rfl) :
    DE X W (.Call (.Attribute o "get" apos) [e, f] [] cpos) (mGet2 mo me mf) := by
  obtain ⟨to, po, ko⟩ := ho
  obtain ⟨te, pe, ke⟩ := he
  obtain ⟨tf, pf, kf⟩ := hf
  refine ⟨_, pe_dget2 (by omega) po pe pf ⟨h1, h2, h3, h4⟩, fun ξ μ σ H ρ S Q g s h => ko ξ μ σ H ρ S _ g s (WR.bind h fun x S1 v μ1 H1 u1 s1 r1 w1 => ?_)⟩
  cases q0 : dicOf S1 x with
  | none => rw [q0] at w1; exact w1.elim
  | some kvs0 =>
    rw [q0] at w1
    obtain ⟨n0, a0, vk0, rfl, rfl, ea0, es0, e30, e40⟩ := dic_at s1 r1 q0
    refine ⟨a0, rfl, .inl ⟨_, .inl e30⟩, ?_⟩
    refine ke ξ μ1 σ H1 ρ S1 _ (g.up u1) s1 (WR.bind w1 fun y S2 w μ2 H2 u2 s2 r2 w2 => ?_)
    refine kf ξ μ2 σ H2 ρ S2 _ (g.up (u1.trans u2)) s2 (WR.bind w2 fun z S3 w' μ3 H3 u3 s3 r3 w3 => ?_)
    cases q1 : dicOf S3 (.cell n0) with
    | none => rw [q1] at w3; exact w3.elim
    | some kvs =>
      cases q2 : keyD y with
      | none => rw [q1, q2] at w3; exact w3.elim
      | some k =>
        rw [q1, q2] at w3
        simp only at w3
        obtain ⟨n, a, vk, en, ev, ea, es, e3, e4⟩ := dic_at s3 (r1.up (u2.trans u3)) q1
        have ev : a0 = a := by injection ev
        subst ev
        have ek := keyD_of (r2.up u3) q2
        subst ek
        refine ⟨_, DGet.k e3, ?_⟩
        cases q3 : valD kvs k with
        | none =>
          rw [q3] at w3
          have hn := valV_none (k := k) e4
          rw [q3] at hn
          have hn' : valV vk k = none := by
            cases c : valV vk k with
            | none => rfl
            | some _ => rw [c] at hn; cases hn
          rw [hn']
          exact w3 _ μ3 H3 .refl s3 r3
        | some d =>
          rw [q3] at w3
          obtain ⟨zz, e5, e6⟩ := valV_of e4 q3
          rw [e5]
          exact w3 _ μ3 H3 .refl s3 e6
noncomputable def gCatS : Sto → D → D → Option D := fun _ x y => match x, y with
  | .str a, .str b => if a.length + b.length ≤ 16777216 then some (.str (a ++ b)) else none
  | _, _ => none
theorem o_catS : OpD X rCatS gCatS := by
  intro ξ μ H S x y v u z Q s rx ry e k
  cases rx with
  | str a =>
    cases ry with
    | str b =>
      unfold gCatS at e
      simp only at e
      by_cases c : a.length + b.length ≤ 16777216
      · rw [if_pos c] at e
        cases e
        exact ⟨a, b, rfl, rfl, by rw [sizeLine_eq]; exact c, k _ μ H .refl s (.str _)⟩
      · rw [if_neg c] at e; exact nomatch e
    | _ => exact nomatch e
  | _ => cases ry <;> exact nomatch e
variable {lo hi : Option Expr} {ml mh : MO}
noncomputable def mSlS (a : ME) (lo hi : MO) : ME := fun ρ S => (a ρ S).bind fun x S1 => (lo ρ S1).bind fun l S2 => (hi ρ S2).bind fun h S3 => match x with
  | .str z => if z.length ≤ 16777216 then .ok (.str (cutS z l h)) S3 else .bad
  | _ => .bad
end
section
variable {S : Sto} {ρ : Rho} {E : EX} {Q : D → Sto → Prop}
@[simp] theorem does_get2 {mo mk mx : ME} : (mGet2 mo mk mx ρ S).DoesE E Q = (mo ρ S).DoesE E fun d S1 => match dicOf S1 d with
    | none => False
    | some _ => (mk ρ S1).DoesE E fun y S2 => (mx ρ S2).DoesE E fun z S3 => match dicOf S3 d, keyD y with
      | some kvs, some k => Q ((valD kvs k).getD z) S3
      | _, _ => False := by
  unfold mGet2
  rw [does_bind]; congr 1; funext d S1
  cases dicOf S1 d with
  | none => rfl
  | some kvs0 =>
    simp only
    rw [does_bind]; congr 1; funext y S2
    rw [does_bind]; congr 1; funext z S3
    cases dicOf S3 d with
    | none => rfl
    | some kvs =>
      cases keyD y with
      | none => rfl
      | some k => rfl
@[simp] theorem gCatS_str {a b : Str} : gCatS S (.str a) (.str b) = if a.length + b.length ≤ 16777216 then some (.str (a ++ b)) else none := rfl
@[simp] theorem does_slS {a : ME} {lo hi : MO} : (mSlS a lo hi ρ S).DoesE E Q = (a ρ S).DoesE E fun x S1 => (lo ρ S1).DoesE E fun l S2 => (hi ρ S2).DoesE E fun h S3 => match x with
    | .str z => z.length ≤ 16777216 ∧ Q (.str (cutS z l h)) S3
    | _ => False := by
  unfold mSlS
  rw [does_bind]; congr 1; funext x S1
  rw [does_bind]; congr 1; funext l S2
  rw [does_bind]; congr 1; funext h S3
  cases x with
  | str z =>
    simp only
    by_cases c : z.length ≤ 16777216
    · rw [if_pos c]; simp [c]
    · rw [if_neg c]; simp [c, Res.DoesE]
  | _ => rfl
end
end Dm
namespace Dm
open PySem L2
end Dm
namespace Dm
open PySem L2 PySem.Spec PyProof.Rows
open PySem.W (Frag)
noncomputable def gMulU : Sto → D → D → Option D := fun S x y => match x, y with
  | .tup ds, .int k => if k = 1 then some (.tup ds) else gMulT S (.tup ds) (.int k)
  | _, _ => none
@[simp] theorem gMulU_tup {S : Sto} {ds : List D} {k : Int} : gMulU S (.tup ds) (.int k) = if k = 1 then some (.tup ds) else if ds.length ≠ 0 ∧ 2 ≤ k ∧ k ≤ 1000 ∧ ds.length ≤ 1000 then some (.tup (List.replicate k.toNat ds).flatten) else none := rfl
end Dm
namespace Dm
open PySem L2
end Dm
namespace Dm
open PySem L2
noncomputable section
noncomputable def m_is_hour : List D → Sto → Res D := mDef 2 2 (mRet (mAnd (mCall m_is_integer (mCons (mVar 1) mNil)) (mAnd (mChain gLe gLt (mK (.int 0)) (mVar 1) (mCallB gLen (mCons (mVar 0) mNil))) (mOp gNe (mOp gIx (mVar 0) (mVar 1)) (mK (.str "span"))))))
noncomputable def m_wish_fits : List D → Sto → Res D := mDef 2 4 (mSeq (mIfS (mOr (mNot (mIsi .tup (mVar 1))) (mOr (mOp gEq (mCallB gLen (mCons (mVar 1) mNil)) (mK (.int 0))) (mNot (mIsi .str (mOp gIx (mVar 1) (mK (.int 0))))))) (mRet (mK (.bl false))) mNop) (mSeq (mIfS (mOr (mTbIn true [("found", (.tup [])), ("same", (.tup [(.str "point"), (.str "point")])), ("order", (.tup [(.str "point"), (.str "point")])), ("near", (.tup [(.str "point"), (.str "point"), (.str "most")]))] (mOp gIx (mVar 1) (mK (.int 0)))) (mOp gNe (mCallB gLen (mCons (mVar 1) mNil)) (mOp gAdd (mCallB gLen (mCons (mTbIx [("found", (.tup [])), ("same", (.tup [(.str "point"), (.str "point")])), ("order", (.tup [(.str "point"), (.str "point")])), ("near", (.tup [(.str "point"), (.str "point"), (.str "most")]))] (mOp gIx (mVar 1) (mK (.int 0)))) mNil)) (mK (.int 1))))) (mRet (mK (.bl false))) mNop) (mSeq (mAsg 2 (mCall m_kinds_of (mCons (mVar 0) mNil))) (mSeq (mIfS (mNot (mCallB gAll (mCons (mFz (mLcA (mSlT (mVar 1) (mPart (mK (.int 1))) (mPart (mK (.int 3)))) (tgN 3) mYes (mCall m_is_hour (mCons (mVar 2) (mCons (mVar 3) mNil))) [3])) mNil))) (mRet (mK (.bl false))) mNop) (mRet (mOr (mOp gLt (mCallB gLen (mCons (mVar 1) mNil)) (mK (.int 4))) (mAnd (mCall m_is_integer (mCons (mOp gIx (mVar 1) (mK (.int 3))) mNil)) (mChain gLe gLe (mK (.int 0)) (mOp gIx (mVar 1) (mK (.int 3))) (mK (.int 1000000))))))))))
noncomputable def m_is_wish : List D → Sto → Res D := mDef 3 3 (mSeq (mDrop (mCall m_need_zones (mCons (mVar 0) mNil))) (mSeq (mDrop (mCall m_need_program (mCons (mVar 0) (mCons (mVar 1) mNil)))) (mRet (mCall m_wish_fits (mCons (mVar 1) (mCons (mVar 2) mNil))))))
noncomputable def m_law_pick_v2 : List D → Sto → Res D := mDef 2 5 (mSeq (mIfS (mOp gGt (mOp gIx (mVar 0) (mK (.int 0))) (mK (.int 0))) (mSeq (mAsg 2 (mOp gMod (mCallB gInt1 (mCons (mOp gIx (mVar 0) (mK (.int 0))) mNil)) (mVar 1))) (mSeq (mSetIx (mOp gFdiv (mOp gIx (mVar 0) (mK (.int 0))) (mVar 1)) (mVar 0) (mK (.int 0))) (mRet (mVar 2)))) mNop) (mSeq (mSetIx (mOp gAdd (mOp gIx (mVar 0) (mK (.int 2))) (mK (.int 1))) (mVar 0) (mK (.int 2))) (mSeq (mAsg 3 (mOp gIx (mVar 0) (mK (.int 2)))) (mSeq (mAsg 4 (mOp gAdd (mOp gMul (mOp gAdd (mOp gIx (mVar 0) (mK (.int 1))) (mK (.int 11))) (mOp gAdd (mOp gAdd (mOp gMul (mOp gMul (mK (.int 19)) (mVar 3)) (mVar 3)) (mOp gMul (mK (.int 6364136)) (mVar 3))) (mK (.int 5)))) (mOp gMul (mK (.int 40503)) (mVar 3)))) (mSeq (mAsg 4 (mOp gFdiv (mOp gMod (mCallB gInt1 (mCons (mOp gAdd (mOp gMul (mVar 4) (mVar 4)) (mOp gMul (mK (.int 1442695)) (mVar 4))) mNil)) (mK (.int 2305843009213693951))) (mK (.int 2053)))) (mRet (mOp gMod (mOp gFdiv (mOp gMod (mCallB gInt1 (mCons (mOp gAdd (mOp gAdd (mOp gMul (mVar 4) (mVar 4)) (mOp gMul (mK (.int 7919)) (mVar 4))) (mVar 3)) mNil)) (mK (.int 1000000000039))) (mK (.int 32))) (mVar 1))))))))
noncomputable def m_law_cells : List D → Sto → Res D := mDef 2 2 (mRet (mFz (mCatL (mLst (mCons (mK (.int 1600000000000000000000000000000000731)) mNil)) (mSlL (mVar 0) mNoPart (mPart (mVar 1))))))
noncomputable def m_law_draw_spot : List D → Sto → Res D := mDef 3 5 (mSeq (mAsg 3 (mFz (mLc (iRange1 (mCons (mCallB gLen (mCons (mVar 1) mNil)) mNil)) (tgN 4) (mOp (gIn false) (mOp gIx (mVar 1) (mVar 4)) (mVar 2)) (mVar 4) [4]))) (mRet (mOp gIx (mFz (mLst (mCons (mOp gIx (mVar 3) (mK (.int (-1)))) (mCons (mOp gIx (mVar 3) (mCall m_law_pick_v2 (mCons (mVar 0) (mCons (mCallB gLen (mCons (mVar 3) mNil)) mNil)))) mNil)))) (mCall m_law_pick_v2 (mCons (mVar 0) (mCons (mK (.int 2)) mNil))))))
noncomputable def m_law_sort_behind : List D → Sto → Res D := mDef 2 3 (mSeq (mAsg 2 (mDisp (mPCons (mK (.str "read")) (mK (.str "reading")) (mPCons (mK (.str "find")) (mK (.str "moment")) (mPCons (mK (.str "offset")) (mK (.str "span")) (mPCons (mK (.str "edition")) (mK (.str "moment")) (mPCons (mK (.str "plus")) (mK (.str "reading")) mPNil))))))) (mSeq (mIfS (mOp gEq (mOp gIx (mVar 1) (mK (.int 0))) (mK (.str "add"))) (mRet (mOp gIx (mVar 0) (mOp gIx (mVar 1) (mK (.int 1))))) mNop) (mRet (mGet2 (mVar 2) (mOp gIx (mVar 1) (mK (.int 0))) (mK (.str "moment"))))))
noncomputable def m_law_kinds_in : List D → Sto → Res D := mDef 1 3 (mSeq (mAsg 1 (mNew (mLst (mCons (mK (.str "moment")) mNil)))) (mSeq (mForA (mVar 0) (tgN 2) (mApp (mVar 1) (mCall m_law_sort_behind (mCons (mVar 1) (mCons (mVar 2) mNil))))) (mRet (mVar 1))))
noncomputable def m_law_rule : List D → Sto → Res D := mDef 1 2 (mSeq (mAsg 1 (mOp gIx (mFz (mLst (mCons (mK (.str "early")) (mCons (mK (.str "late")) (mCons (mK (.str "early")) (mCons (mK (.str "late")) (mCons (mK (.str "refuse")) mNil))))))) (mCall m_law_pick_v2 (mCons (mVar 0) (mCons (mK (.int 5)) mNil))))) (mRet (mTup (mCons (mVar 1) (mCons (mOp gIx (mFz (mLst (mCons (mK (.str "ahead")) (mCons (mK (.str "behind")) (mCons (mK (.str "ahead")) (mCons (mK (.str "behind")) (mCons (mK (.str "refuse")) mNil))))))) (mCall m_law_pick_v2 (mCons (mVar 0) (mCons (mK (.int 5)) mNil)))) mNil)))))
noncomputable def m_law_words_open : List D → Sto → Res D := mDef 4 6 (mSeq (mAsg 4 (mFz (mLst (mCons (mK (.str "add")) mNil)))) (mSeq (mIfS (mOp gGt (mVar 2) (mK (.int 0))) (mSeq (mAsg 4 (mFz (mCatV (mVar 4) (mLst (mCons (mK (.str "read")) (mCons (mK (.str "read")) (mCons (mK (.str "offset")) mNil))))))) (mSeq (mIfS (mOp (gIn false) (mK (.str "reading")) (mVar 0)) (mAsg 4 (mFz (mCatV (mVar 4) (mLst (mCons (mK (.str "find")) (mCons (mK (.str "find")) (mCons (mK (.str "find")) mNil))))))) mNop) (mIfS (mAnd (mVar 3) (mOp gEq (mFz (mLcA (mVar 1) (tgN 5) (mOp gEq (mOp gIx (mVar 5) (mK (.int 0))) (mK (.str "edition"))) (mVar 5) [5])) (mFz (mLst mNil)))) (mAsg 4 (mFz (mCatV (mVar 4) (mLst (mCons (mK (.str "edition")) mNil))))) mNop))) mNop) (mSeq (mIfS (mOp (gIn false) (mK (.str "span")) (mVar 0)) (mSeq (mAsg 4 (mFz (mCatV (mVar 4) (mLst (mCons (mK (.str "plus")) mNil))))) (mIfS (mOp (gIn false) (mK (.str "reading")) (mVar 0)) (mAsg 4 (mFz (mCatV (mVar 4) (mLst (mCons (mK (.str "less")) (mCons (mK (.str "less")) mNil)))))) mNop)) mNop) (mRet (mVar 4)))))
noncomputable def m_law_draw_step : List D → Sto → Res D := mDef 5 8 (mSeq (mAsg 5 (mOp gIx (mVar 3) (mCall m_law_pick_v2 (mCons (mVar 0) (mCons (mCallB gLen (mCons (mVar 3) mNil)) mNil))))) (mSeq (mAsg 6 (mDisp (mPCons (mK (.str "find")) (mFz (mLst (mCons (mK (.str "reading")) mNil))) (mPCons (mK (.str "less")) (mFz (mLst (mCons (mK (.str "reading")) mNil))) (mPCons (mK (.str "add")) (mFz (mLst (mCons (mK (.str "moment")) (mCons (mK (.str "reading")) mNil)))) mPNil))))) (mSeq (mAsg 7 (mCall m_law_draw_spot (mCons (mVar 0) (mCons (mVar 2) (mCons (mGet2 (mVar 6) (mVar 5) (mFz (mLst (mCons (mK (.str "moment")) mNil)))) mNil))))) (mSeq (mIfS (mOp gEq (mVar 5) (mK (.str "add"))) (mRet (mTup (mCons (mVar 5) (mCons (mVar 7) (mCons (mOp gIx (mVar 4) (mCall m_law_pick_v2 (mCons (mVar 0) (mCons (mCallB gLen (mCons (mVar 4) mNil)) mNil)))) mNil))))) mNop) (mSeq (mIfS (mOp (gIn false) (mVar 5) (mFz (mLst (mCons (mK (.str "plus")) (mCons (mK (.str "less")) mNil))))) (mRet (mTup (mCons (mVar 5) (mCons (mVar 7) (mCons (mCall m_law_draw_spot (mCons (mVar 0) (mCons (mVar 2) (mCons (mFz (mLst (mCons (mK (.str "span")) mNil))) mNil)))) mNil))))) mNop) (mSeq (mIfS (mOp gEq (mVar 5) (mK (.str "find"))) (mRet (mOp gAdd (mTup (mCons (mVar 5) (mCons (mVar 7) (mCons (mCall m_law_pick_v2 (mCons (mVar 0) (mCons (mVar 1) mNil))) mNil)))) (mCall m_law_rule (mCons (mVar 0) mNil)))) mNop) (mRet (mTup (mCons (mVar 5) (mCons (mVar 7) (mCons (mCall m_law_pick_v2 (mCons (mVar 0) (mCons (mVar 1) mNil))) mNil)))))))))))
noncomputable def m_law_draw_tale : List D → Sto → Res D := mDef 7 11 (mSeq (mAsg 7 (mNew (mCallBL gList (mCons (mVar 6) mNil)))) (mSeq (mAsg 8 (mCall m_law_kinds_in (mCons (mVar 6) mNil))) (mSeq (mFor (iRange1 (mCons (mOp gSub (mVar 2) (mCallB gLen (mCons (mVar 6) mNil))) mNil)) (tgN 9) (mSeq (mAsg 10 (mCall m_law_draw_step (mCons (mVar 0) (mCons (mVar 1) (mCons (mVar 8) (mCons (mCall m_law_words_open (mCons (mVar 8) (mCons (mVar 7) (mCons (mVar 3) (mCons (mVar 4) mNil))))) (mCons (mVar 5) mNil))))))) (mSeq (mAsg 3 (mOp gSub (mVar 3) (mCallB gInt1 (mCons (mOp (gIn false) (mOp gIx (mVar 10) (mK (.int 0))) (mFz (mLst (mCons (mK (.str "read")) (mCons (mK (.str "find")) (mCons (mK (.str "offset")) (mCons (mK (.str "edition")) mNil))))))) mNil)))) (mSeq (mApp (mVar 8) (mCall m_law_sort_behind (mCons (mVar 8) (mCons (mVar 10) mNil)))) (mApp (mVar 7) (mVar 10)))))) (mRet (mCallB gTuple (mCons (mVar 7) mNil))))))
noncomputable def m_law_hours_in : List D → Sto → Res D := mDef 1 3 (mSeq (mAsg 1 (mCall m_law_kinds_in (mCons (mVar 0) mNil))) (mRet (mFz (mLc (iRange1 (mCons (mCallB gLen (mCons (mVar 1) mNil)) mNil)) (tgN 2) (mOp gNe (mOp gIx (mVar 1) (mVar 2)) (mK (.str "span"))) (mVar 2) [2]))))
noncomputable def m_law_draw_shifts : List D → Sto → Res D := mDef 1 7 (mSeq (mAsg 1 (mCall m_law_pick_v2 (mCons (mVar 0) (mCons (mK (.int 8)) mNil)))) (mSeq (mAsg 2 (mFz (mLst (mCons (mTup (mCons (mK (.int 0)) (mCons (mK (.int 60)) mNil))) (mCons (mTup (mCons (mK (.int (-900))) (mCons (mK (.int 900)) mNil))) (mCons (mTup (mCons (mK (.int (-900))) (mCons (mK (.int (-899))) mNil))) (mCons (mTup (mCons (mK (.int 0)) mNil)) mNil))))))) (mSeq (mAsg 2 (mFz (mCatV (mVar 2) (mLst (mCons (mTup (mCons (mK (.int (-660))) (mCons (mK (.int (-600))) (mCons (mK (.int 840)) mNil)))) (mCons (mTup (mCons (mK (.int (-1))) (mCons (mK (.int 0)) (mCons (mK (.int 1)) mNil)))) (mCons (mTup (mCons (mK (.int 899)) (mCons (mK (.int 900)) mNil))) (mCons (mTup (mCons (mK (.int 0)) (mCons (mK (.int 1)) (mCons (mK (.int 900)) mNil)))) mNil)))))))) (mSeq (mIfS (mOp gLt (mVar 1) (mK (.int 2))) (mRet (mOp gIx (mVar 2) (mCall m_law_pick_v2 (mCons (mVar 0) (mCons (mK (.int 8)) mNil))))) mNop) (mSeq (mAsg 3 (mOp gIx (mFz (mLst (mCons (mK (.int 1)) (mCons (mK (.int 2)) (mCons (mK (.int 60)) (mCons (mK (.int 30)) (mCons (mK (.int 7)) (mCons (mK (.int 1440)) (mCons (mK (.int 1800)) mNil))))))))) (mCall m_law_pick_v2 (mCons (mVar 0) (mCons (mK (.int 7)) mNil))))) (mSeq (mAsg 4 (mOp gSub (mCall m_law_pick_v2 (mCons (mVar 0) (mCons (mK (.int 1801)) mNil))) (mK (.int 900)))) (mSeq (mAsg 5 (mCallB gMin2 (mCons (mK (.int 900)) (mCons (mOp gAdd (mOp gAdd (mVar 4) (mK (.int 1))) (mCall m_law_pick_v2 (mCons (mVar 0) (mCons (mVar 3) mNil)))) mNil)))) (mSeq (mAsg 6 (mOp gAdd (mOp gAdd (mVar 4) (mK (.int 1))) (mCall m_law_pick_v2 (mCons (mVar 0) (mCons (mCallB gMax2 (mCons (mK (.int 1)) (mCons (mOp gSub (mOp gSub (mVar 5) (mVar 4)) (mK (.int 1))) mNil))) mNil))))) (mSeq (mIfS (mAnd (mOp gEq (mVar 1) (mK (.int 7))) (mChain gLt gLt (mVar 4) (mVar 6) (mVar 5))) (mRet (mTup (mCons (mVar 4) (mCons (mVar 6) (mCons (mVar 5) mNil))))) mNop) (mRet (mIf (mAnd (mOp gLt (mVar 4) (mVar 5)) (mOp gGt (mVar 1) (mK (.int 2)))) (mTup (mCons (mVar 4) (mCons (mVar 5) mNil))) (mTup (mCons (mVar 4) mNil)))))))))))))
noncomputable def m_law_draw_apart : List D → Sto → Res D := mDef 2 4 (mSeq (mAsg 2 (mOp gAdd (mOp gSub (mOp gIx (mVar 1) (mK (.int (-1)))) (mOp gIx (mVar 1) (mK (.int 0)))) (mK (.int 1)))) (mSeq (mAsg 3 (mFz (mLst (mCons (mVar 2) (mCons (mVar 2) (mCons (mOp gAdd (mVar 2) (mCall m_law_pick_v2 (mCons (mVar 0) (mCons (mK (.int 4)) mNil)))) (mCons (mOp gAdd (mVar 2) (mCall m_law_pick_v2 (mCons (mVar 0) (mCons (mK (.int 300)) mNil)))) (mCons (mOp gMul (mK (.int 2)) (mVar 2)) (mCons (mK (.int 1440)) (mCons (mK (.int 1000000)) mNil)))))))))) (mSeq (mAsg 3 (mFz (mCatV (mVar 3) (mLst (mCons (mOp gAdd (mK (.int 1)) (mCall m_law_pick_v2 (mCons (mVar 0) (mCons (mK (.int 1000000)) mNil)))) (mCons (mOp gAdd (mK (.int 100000)) (mCall m_law_pick_v2 (mCons (mVar 0) (mCons (mK (.int 60)) mNil)))) mNil)))))) (mRet (mCallB gMax2 (mCons (mVar 2) (mCons (mOp gIx (mVar 3) (mCall m_law_pick_v2 (mCons (mVar 0) (mCons (mK (.int 9)) mNil)))) mNil)))))))
noncomputable def m_law_draw_fields : List D → Sto → Res D := mDef 3 7 (mSeq (mAsg 3 (mNew (mLst mNil))) (mSeq (mFor (iRange1 (mCons (mVar 1) mNil)) (tgN 4) (mSeq (mAsg 5 (mSlT (mCall m_law_draw_shifts (mCons (mVar 0) mNil)) mNoPart (mPart (mVar 2)))) (mSeq (mIfS (mAnd (mOp gGt (mVar 4) (mK (.int 0))) (mOp gEq (mCall m_law_pick_v2 (mCons (mVar 0) (mCons (mK (.int 3)) mNil))) (mK (.int 0)))) (mAsg 5 (mOp gIx (mOp gIx (mVar 3) (mK (.int 0))) (mK (.int 0)))) mNop) (mSeq (mAsg 6 (mTup (mCons (mVar 5) (mCons (mCall m_law_draw_apart (mCons (mVar 0) (mCons (mVar 5) mNil))) mNil)))) (mApp (mVar 3) (mIf (mAnd (mOp gGt (mVar 4) (mK (.int 0))) (mOp gEq (mCall m_law_pick_v2 (mCons (mVar 0) (mCons (mK (.int 8)) mNil))) (mK (.int 0)))) (mOp gIx (mVar 3) (mK (.int 0))) (mVar 6))))))) (mRet (mCallB gTuple (mCons (mVar 3) mNil)))))
noncomputable def m_law_minutes_v2 : List D → Sto → Res D := mDef 2 8 (mSeq (mAsg 2 (mOp gIx (mVar 1) (mCall m_law_pick_v2 (mCons (mVar 0) (mCons (mCallB gLen (mCons (mVar 1) mNil)) mNil))))) (mSeq (mAsg 3 (mOp gSub (mOp gIx (mOp gIx (mVar 2) (mK (.int 0))) (mK (.int (-1)))) (mOp gIx (mOp gIx (mVar 2) (mK (.int 0))) (mK (.int 0))))) (mSeq (mAsg 4 (mFz (mLst (mCons (mVar 3) (mCons (mOp gSub (mVar 3) (mK (.int 1))) (mCons (mOp gAdd (mVar 3) (mK (.int 1))) (mCons (mOp gIx (mVar 2) (mK (.int 1))) (mCons (mOp gSub (mOp gIx (mVar 2) (mK (.int 1))) (mK (.int 1))) (mCons (mOp gAdd (mOp gIx (mVar 2) (mK (.int 1))) (mK (.int 1))) (mCons (mOp gSub (mOp gIx (mVar 2) (mK (.int 1))) (mVar 3)) (mCons (mOp gMul (mK (.int 2)) (mOp gIx (mVar 2) (mK (.int 1)))) mNil))))))))))) (mSeq (mAsg 4 (mFz (mCatV (mVar 4) (mLst (mCons (mK (.int 1)) (mCons (mK (.int 0)) (mCons (mK (.int 1440)) (mCons (mK (.int 60)) (mCons (mK (.int 100000)) (mCons (mCall m_law_pick_v2 (mCons (mVar 0) (mCons (mK (.int 100001)) mNil))) (mCons (mCall m_law_pick_v2 (mCons (mVar 0) (mCons (mK (.int 2000)) mNil))) (mCons (mOp gSub (mOp gSub (mOp gIx (mVar 2) (mK (.int 1))) (mVar 3)) (mK (.int 1))) mNil)))))))))))) (mSeq (mAsg 5 (mFz (mLc (iRange1 (mCons (mK (.int 8)) mNil)) (tgN 6) mYes (mOp gMul (mOp gIx (mVar 4) (mCall m_law_pick_v2 (mCons (mVar 0) (mCons (mK (.int 16)) mNil)))) (mOp gIx (mFz (mLst (mCons (mK (.int 1)) (mCons (mK (.int (-1))) mNil)))) (mCall m_law_pick_v2 (mCons (mVar 0) (mCons (mK (.int 2)) mNil))))) [6]))) (mRet (mFz (mLcA (mVar 5) (tgN 7) mYes (mCallB gMax2 (mCons (mK (.int (-100000))) (mCons (mCallB gMin2 (mCons (mK (.int 100000)) (mCons (mVar 7) mNil))) mNil))) [7]))))))))
noncomputable def m_law_draw_want : List D → Sto → Res D := mDef 2 5 (mSeq (mAsg 2 (mOp gIx (mFz (mLst (mCons (mK (.str "found")) (mCons (mK (.str "same")) (mCons (mK (.str "order")) (mCons (mK (.str "near")) mNil)))))) (mCall m_law_pick_v2 (mCons (mVar 0) (mCons (mK (.int 4)) mNil))))) (mSeq (mIfS (mOp gEq (mVar 2) (mK (.str "found"))) (mRet (mTup (mCons (mVar 2) mNil))) mNop) (mSeq (mAsg 3 (mTup (mCons (mVar 2) (mCons (mOp gIx (mVar 1) (mCall m_law_pick_v2 (mCons (mVar 0) (mCons (mCallB gLen (mCons (mVar 1) mNil)) mNil)))) (mCons (mOp gIx (mVar 1) (mCall m_law_pick_v2 (mCons (mVar 0) (mCons (mCallB gLen (mCons (mVar 1) mNil)) mNil)))) mNil))))) (mSeq (mIfS (mOp gNe (mVar 2) (mK (.str "near"))) (mRet (mVar 3)) mNop) (mSeq (mAsg 4 (mFz (mLst (mCons (mK (.int 0)) (mCons (mK (.int 1)) (mCons (mK (.int 1000000)) (mCons (mK (.int 60)) (mCons (mCall m_law_pick_v2 (mCons (mVar 0) (mCons (mK (.int 2000)) mNil))) (mCons (mCall m_law_pick_v2 (mCons (mVar 0) (mCons (mK (.int 1000001)) mNil))) (mCons (mK (.int 1801)) mNil)))))))))) (mRet (mOp gAdd (mVar 3) (mTup (mCons (mOp gIx (mVar 4) (mCall m_law_pick_v2 (mCons (mVar 0) (mCons (mK (.int 7)) mNil)))) mNil)))))))))
noncomputable def m_law_is_want : List D → Sto → Res D := mDef 2 4 (mSeq (mIfS (mOr (mNot (mIsi .tup (mVar 1))) (mOr (mOp gEq (mCallB gLen (mCons (mVar 1) mNil)) (mK (.int 0))) (mNot (mIsi .str (mOp gIx (mVar 1) (mK (.int 0))))))) (mRet (mK (.bl false))) mNop) (mSeq (mIfS (mOp gEq (mOp gIx (mVar 1) (mK (.int 0))) (mK (.str "found"))) (mRet (mOp gEq (mCallB gLen (mCons (mVar 1) mNil)) (mK (.int 1)))) mNop) (mSeq (mAsg 2 (mIf (mOp gEq (mOp gIx (mVar 1) (mK (.int 0))) (mK (.str "near"))) (mK (.int 4)) (mK (.int 3)))) (mSeq (mIfS (mOr (mOp (gIn true) (mOp gIx (mVar 1) (mK (.int 0))) (mFz (mLst (mCons (mK (.str "same")) (mCons (mK (.str "order")) (mCons (mK (.str "near")) mNil)))))) (mOp gNe (mCallB gLen (mCons (mVar 1) mNil)) (mVar 2))) (mRet (mK (.bl false))) mNop) (mSeq (mForA (mSlT (mVar 1) (mPart (mK (.int 1))) (mPart (mK (.int 3)))) (tgN 3) (mIfS (mOr (mNot (mCall m_law_whole (mCons (mVar 3) mNil))) (mOr (mOp gLt (mVar 3) (mK (.int 0))) (mOr (mOp gGe (mVar 3) (mCallB gLen (mCons (mVar 0) mNil))) (mOp gEq (mOp gIx (mVar 0) (mVar 3)) (mK (.str "span")))))) (mRet (mK (.bl false))) mNop)) (mRet (mOr (mOp gEq (mVar 2) (mK (.int 3))) (mAnd (mCall m_law_whole (mCons (mOp gIx (mVar 1) (mK (.int 3))) mNil)) (mChain gLe gLe (mK (.int 0)) (mOp gIx (mVar 1) (mK (.int 3))) (mK (.int 1000000)))))))))))
noncomputable def m_law_bend : List D → Sto → Res D := mDef 3 5 (mSeq (mPar 3 4 (mCons (mCall m_law_pick_v2 (mCons (mVar 0) (mCons (mK (.int 8)) mNil))) (mCons (mCall m_law_pick_v2 (mCons (mVar 0) (mCons (mOp gAdd (mCallB gLen (mCons (mVar 1) mNil)) (mK (.int 1))) mNil))) mNil))) (mSeq (mIfS (mOp gEq (mVar 3) (mK (.int 0))) (mRet (mFz (mCallBL gList (mCons (mVar 1) mNil)))) mNop) (mSeq (mIfS (mOp gEq (mVar 3) (mK (.int 1))) (mRet (mOp gAdd (mOp gAdd (mSlT (mVar 1) mNoPart (mPart (mVar 4))) (mTup (mCons (mVar 2) mNil))) (mSlT (mVar 1) (mPart (mVar 4)) mNoPart))) mNop) (mSeq (mIfS (mOp gEq (mVar 3) (mK (.int 2))) (mRet (mOp gAdd (mSlT (mVar 1) mNoPart (mPart (mVar 4))) (mSlT (mVar 1) (mPart (mOp gAdd (mVar 4) (mK (.int 1)))) mNoPart))) mNop) (mSeq (mIfS (mOp gEq (mVar 3) (mK (.int 3))) (mRet (mOp gAdd (mOp gAdd (mSlT (mVar 1) mNoPart (mPart (mVar 4))) (mSlT (mVar 1) (mPart (mVar 4)) (mPart (mOp gAdd (mVar 4) (mK (.int 1)))))) (mSlT (mVar 1) (mPart (mVar 4)) mNoPart))) mNop) (mSeq (mIfS (mOp gEq (mVar 3) (mK (.int 4))) (mRet (mOp gAdd (mOp gAdd (mSlT (mVar 1) mNoPart (mPart (mVar 4))) (mBackA (mSlT (mVar 1) (mPart (mVar 4)) (mPart (mOp gAdd (mVar 4) (mK (.int 2))))))) (mSlT (mVar 1) (mPart (mOp gAdd (mVar 4) (mK (.int 2)))) mNoPart))) mNop) (mRet (mOp gAdd (mOp gAdd (mSlT (mVar 1) mNoPart (mPart (mVar 4))) (mTup (mCons (mVar 2) mNil))) (mSlT (mVar 1) (mPart (mOp gAdd (mVar 4) (mK (.int 1)))) mNoPart)))))))))
noncomputable def m_law_tells : List D → Sto → Res D := mDef 2 2 (mRet (mAnd (mIsi .bl (mVar 0)) (mOp gEq (mVar 0) (mVar 1))))
end
end Dm
namespace Dm
open PySem L2 PySem.Spec PyProof.Rows
end Dm
namespace Dm
open PySem L2
end Dm
namespace Dm
open PySem L2
end Dm
namespace Dm
open PySem L2 PySem.Spec PyProof.Rows
end Dm
namespace Dm
open PySem L2
end Dm
namespace Dm
open PySem L2 PySem.Spec PyProof.Rows
open PySem.W (Frag)
section
variable {X : Cx} {W : WX}
noncomputable def mPopE (o : ME) : ME := fun ρ S => (o ρ S).bind fun x S1 => match x with
  | .cell n => match S1[n]? with
    | some (.lst ds) => match ds[ds.length - 1]? with
      | some d => .ok d (S1.set n (.lst ds.dropLast))
      | none => .bad
    | _ => .bad
  | _ => .bad
end
section
variable {S : Sto} {ρ : Rho} {Q : D → Sto → Prop} {E : EX}
@[simp] theorem does_popE {o : ME} : (mPopE o ρ S).DoesE E Q = (o ρ S).DoesE E fun x S1 => match x with
    | .cell n => ∃ xs, S1[n]? = some (.lst xs) ∧ ∃ d, xs[xs.length - 1]? = some d ∧ Q d (S1.set n (.lst xs.dropLast))
    | _ => False := by
  unfold mPopE
  rw [does_bind]; congr 1; funext x S1
  cases x with
  | cell n =>
    simp only
    cases q : S1[n]? with
    | none => exact propext ⟨fun h => h.elim, fun ⟨_, h, _⟩ => nomatch h⟩
    | some c =>
      cases c with
      | lst ds =>
        cases hd : ds[ds.length - 1]? with
        | none =>
          simp only
          refine propext ⟨fun h => ?_, fun ⟨xs, h, d, h2, _⟩ => ?_⟩
          · rw [hd] at h; exact h.elim
          · cases h
            rw [hd] at h2
            cases h2
        | some d =>
          simp only
          refine propext ⟨fun h => ?_, fun ⟨xs, h, d', h2, h3⟩ => ?_⟩
          · rw [hd] at h
            exact ⟨ds, rfl, d, hd, h⟩
          · cases h
            rw [hd] at h2
            cases h2
            rw [hd]
            exact h3
      | _ => exact propext ⟨fun h => h.elim, fun ⟨_, h, _⟩ => nomatch h⟩
  | _ => rfl
end
end Dm
namespace Dm
open PySem L2 PySem.Spec PyProof.Rows
open PySem.W (Frag)
theorem resMonoI {α : Type} {r : Res α} {E : EX} {Q Q' : α → Sto → Prop} (h : r.DoesE E Q) (hQ : ∀ a S, Q a S → Q' a S) : r.DoesE E Q' := by
  cases r with
  | ok a S => exact hQ _ _ h
  | exc c fs S => exact h
  | bad => exact h
section
variable {X : Cx} {W : WX} {o e : Expr} {mo me : ME} {apos cpos : Pos}
noncomputable def mIdx (mo me : ME) : ME := fun ρ S => (mo ρ S).bind fun x S1 => match lstOf S1 x with
  | none => .bad
  | some _ => (me ρ S1).bind fun y S2 => match lstOf S2 x with
    | some ds => if flatD y = true ∧ ds.all flatD = true then match ds.findIdx? (eqF · y) with
      | some j => .ok (.int (j : Nat)) S2
      | none => .bad
      else .bad
    | none => .bad
end
section
variable {S : Sto} {ρ : Rho} {Q : D → Sto → Prop} {E : EX}
@[simp] theorem does_idx {o m : ME} : (mIdx o m ρ S).DoesE E Q = (o ρ S).DoesE E fun x S1 => (∃ l, lstOf S1 x = some l) ∧ (m ρ S1).DoesE E fun y S2 => ∃ ds, lstOf S2 x = some ds ∧ (flatD y = true ∧ ds.all flatD = true) ∧ ∃ j, ds.findIdx? (eqF · y) = some j ∧ Q (.int (j : Nat)) S2 := by
  unfold mIdx
  rw [does_bind]; congr 1; funext x S1
  cases q : lstOf S1 x with
  | none => exact propext ⟨fun h => h.elim, fun ⟨⟨_, h⟩, _⟩ => nomatch h⟩
  | some l =>
    simp only
    rw [does_bind]
    refine propext ⟨fun h => ⟨⟨l, rfl⟩, ?_⟩, fun ⟨_, h⟩ => ?_⟩
    · refine resMonoI h fun y S2 h2 => ?_
      cases q1 : lstOf S2 x with
      | none => rw [q1] at h2; exact h2.elim
      | some ds =>
        rw [q1] at h2
        simp only at h2
        by_cases c : flatD y = true ∧ ds.all flatD = true
        · rw [if_pos c] at h2
          cases q2 : ds.findIdx? (eqF · y) with
          | none => rw [q2] at h2; exact h2.elim
          | some j => rw [q2] at h2; exact ⟨ds, rfl, c, j, q2, h2⟩
        · rw [if_neg c] at h2; exact h2.elim
    · refine resMonoI h fun y S2 h2 => ?_
      obtain ⟨ds, q1, c, j, q2, h3⟩ := h2
      rw [q1]
      simp only
      rw [if_pos c, q2]
      exact h3
end
end Dm
namespace Dm
open PySem L2
open PySem.W (Frag)
section
variable {X : Cx} {W : WX}
noncomputable def mExt (o : ME) (nb : MA) : MS := fun ρ S => ofRes (o ρ S) ρ fun x S1 => match x with
  | .cell n => match S1[n]? with
    | some (.lst _) => ofRes (nb ρ S1) ρ fun es S2 => match S2[n]? with
      | some (.lst ds) => if ds.length + es.length ≤ 16777216 then .nx ρ (S2.set n (.lst (ds ++ es))) else .bad
      | _ => .bad
    | _ => .bad
  | _ => .bad
theorem WSL.bind {F : Fx} {E : Ends} {W : WX} {Q1 : VK} {μ : List Addr} {H : Hp} {σ : L2.St} {ρ : Rho} {r : Res (List D)} {f : List D → Sto → Out} (g : RG F μ H σ ρ) (h : WS' F (ofRes r ρ f) E W μ H)
    (k : ∀ ds S1 p xs μ1 H1, Up μ H μ1 H1 → H p = none → RS (F.hold p) μ1 H1 S1 → RDs (F.hold p) μ1 H1 xs ds → H1 p = some (.lst xs) → WS' F (f ds S1) E W μ1 H1 → Q1 (.ref p) H1) : WL' F r Q1 (fun cls dd H' => W cls dd σ H') μ H := by
  cases r with
  | ok x S1 => exact fun p xs μ1 H1 u1 hp s1 r1 e1 => k x S1 p xs μ1 H1 u1 hp s1 r1 e1 (WS'.shift u1 h)
  | exc c fs S => exact fun cls dd μ' H' u' s' x' => h cls dd σ μ' H' u' s' (g.up u') x'
  | bad => exact h
end
section
variable {S : Sto} {ρ : Rho} {N B C : Rho → Sto → Prop} {R : D → Sto → Prop} {EO : EXO}
@[simp] theorem does_ext {o : ME} {nb : MA} : (mExt o nb ρ S).DoesE EO N R B C = (o ρ S).DoesE (eAt EO ρ) fun x S1 => match x with
    | .cell n => (∃ ds0, S1[n]? = some (.lst ds0)) ∧ (nb ρ S1).DoesE (eAt EO ρ) fun es S2 => ∃ ds, S2[n]? = some (.lst ds) ∧ ds.length + es.length ≤ 16777216 ∧ N ρ (S2.set n (.lst (ds ++ es)))
    | _ => False := by
  unfold mExt
  rw [does_ofRes]; congr 1; funext x S1
  cases x with
  | cell n =>
    simp only
    cases e : S1[n]? with
    | none => exact propext ⟨fun h => h.elim, fun ⟨⟨_, h⟩, _⟩ => nomatch h⟩
    | some c =>
      cases c with
      | lst ds0 =>
        simp only
        rw [does_ofRes]
        refine propext ⟨fun h => ⟨⟨ds0, rfl⟩, resMonoI h fun es S2 h2 => ?_⟩, fun ⟨_, h⟩ => resMonoI h fun es S2 h2 => ?_⟩
        · cases q : S2[n]? with
          | none => rw [q] at h2; exact h2.elim
          | some c2 =>
            rw [q] at h2
            cases c2 with
            | lst ds =>
              simp only at h2
              by_cases l : ds.length + es.length ≤ 16777216
              · rw [if_pos l] at h2; exact ⟨ds, rfl, l, h2⟩
              · rw [if_neg l] at h2; exact h2.elim
            | _ => exact h2.elim
        · obtain ⟨ds, q, l, h3⟩ := h2
          rw [q]
          simp only
          rw [if_pos l]
          exact h3
      | _ => exact propext ⟨fun h => h.elim, fun ⟨⟨_, h⟩, _⟩ => nomatch h⟩
  | _ => rfl
end
end Dm
namespace Dm
open PySem L2
noncomputable section
noncomputable def m_law_make_pot_v2 : List D → Sto → Res D := mDef 1 2 (mSeq (mAsg 1 (mIf (mOp gGe (mVar 0) (mK (.int 1000000000000000000))) (mOp gSub (mVar 0) (mK (.int 1000000000000000000))) (mK (.int 0)))) (mRet (mNew (mLst (mCons (mVar 1) (mCons (mOp gMod (mCallB gInt1 (mCons (mVar 0) mNil)) (mK (.int 2305843009213693951))) (mCons (mK (.int 0)) mNil)))))))
end
end Dm
namespace Dm
open PySem L2
end Dm
namespace Dm
open PySem L2
end Dm
namespace Dm
open PySem L2
end Dm
namespace Dm
open PySem L2 PySem.Spec PyProof.Rows
open PySem.W (Frag)
end Dm
namespace Dm
open PySem L2
end Dm
namespace Dm
open PySem L2
end Dm
namespace Dm
open PySem L2
end Dm
namespace Dm
open PySem L2
open PySem.W (Frag)
section
variable {X : Cx} {W : WX} {pos p p1 : Pos}
noncomputable def mSNew : ME := fun _ S => .ok (.cell S.length) (S ++ [.set []])
noncomputable def insS (k : Int) (ns : List Int) : List Int := if k ∈ ns then ns else ns ++ [k]
noncomputable def mSAdd (o m : ME) : MS := fun ρ S => ofRes (o ρ S) ρ fun x S1 => match x with
  | .cell n => match S1[n]? with
    | some (.set _) => ofRes (m ρ S1) ρ fun d S2 => match d, S2[n]? with
      | .int k, some (.set ns) => if ns.length ≤ 4000 then .nx ρ (S2.set n (.set (insS k ns))) else .bad
      | _, _ => .bad
    | _ => .bad
  | _ => .bad
noncomputable def mSortG (m : ME) : MA := fun ρ S => (m ρ S).bind fun d S1 => match d with
  | .cell n => match S1[n]? with
    | some (.set ns) => if ns.length ≤ 4000 then .ok ((uniq ns).map .int) S1 else .bad
    | _ => .bad
  | _ => .bad
end
section
variable {S : Sto} {ρ : Rho} {Q : D → Sto → Prop} {N B C : Rho → Sto → Prop} {R : D → Sto → Prop} {E : EX} {EO : EXO}
@[simp] theorem does_snew : (mSNew ρ S).DoesE E Q = Q (.cell S.length) (S ++ [.set []]) := rfl
@[simp] theorem does_sadd {o m : ME} : (mSAdd o m ρ S).DoesE EO N R B C = (o ρ S).DoesE (eAt EO ρ) fun x S1 => match x with
    | .cell n => (∃ ns0, S1[n]? = some (.set ns0)) ∧ (m ρ S1).DoesE (eAt EO ρ) fun d S2 => ∃ k ns, d = .int k ∧ S2[n]? = some (.set ns) ∧ ns.length ≤ 4000 ∧ N ρ (S2.set n (.set (insS k ns)))
    | _ => False := by
  unfold mSAdd
  rw [does_ofRes]; congr 1; funext x S1
  cases x with
  | cell n =>
    simp only
    cases h : S1[n]? with
    | none => simp [Out.DoesE]
    | some c =>
      cases c with
      | set ns0 =>
        simp only
        rw [does_ofRes]
        simp only [Option.some.injEq, Cell.set.injEq, exists_eq', true_and]
        congr 1; funext d S2
        cases d with
        | int k =>
          cases h2 : S2[n]? with
          | none => simp [Out.DoesE]
          | some c2 =>
            cases c2 with
            | set ns =>
              simp only
              by_cases l : ns.length ≤ 4000
              · rw [if_pos l]; simp [Out.DoesE, l]
              · rw [if_neg l]; simp [Out.DoesE, l]
            | _ => simp [Out.DoesE]
        | _ => simp [Out.DoesE]
      | _ => simp [Out.DoesE]
  | _ => simp [Out.DoesE]
@[simp] theorem does_sortG {m : ME} {Q : List D → Sto → Prop} : (mSortG m ρ S).DoesE E Q = (m ρ S).DoesE E fun d S1 => match d with
    | .cell n => ∃ ns, S1[n]? = some (.set ns) ∧ ns.length ≤ 4000 ∧ Q ((uniq ns).map .int) S1
    | _ => False := by
  unfold mSortG
  rw [does_bind]; congr 1; funext d S1
  cases d with
  | cell n =>
    simp only
    cases h : S1[n]? with
    | none => simp [Res.DoesE]
    | some c =>
      cases c with
      | set ns =>
        simp only
        by_cases l : ns.length ≤ 4000
        · rw [if_pos l]; simp [Res.DoesE, l]
        · rw [if_neg l]; simp [Res.DoesE, l]
      | _ => simp [Res.DoesE]
  | _ => simp [Res.DoesE]
end
end Dm
namespace Dm
open PySem L2
end Dm
set_option maxHeartbeats 1000000
namespace Dm
open PySem PySem.Spec PyProof.Rows GenW L2
end Dm
set_option maxHeartbeats 1000000
namespace Dm
open PySem L2 PySem.Spec PyProof.Rows GenW
open PySem.W (Frag)
inductive GOut where
  | nx (ys : List D) (ρ : Rho) (S : Sto) | rt (ys : List D) (d : D) (S : Sto) | bk (ys : List D) (ρ : Rho) (S : Sto) | ct (ys : List D) (ρ : Rho) (S : Sto)
  | exc (c : Str) (fs : List (Str × D)) (ρ : Rho) (S : Sto) | bad
noncomputable def gOf (ys : List D) : Out → GOut
  | .nx ρ S => .nx ys ρ S
  | .rt d S => .rt ys d S
  | .bk ρ S => .bk ys ρ S
  | .ct ρ S => .ct ys ρ S
  | .exc c fs ρ S => .exc c fs ρ S
  | .bad => .bad
noncomputable def WG' (F : Fx) (r : GOut) (E : GEnds) (W : WX) (μ : List Addr) (H : Hp) : Prop := match r with
  | .nx ys ρ S => ∀ vs σ μ' H', Up μ H μ' H' → RS F μ' H' S → RG F μ' H' σ ρ → RDs F μ' H' vs ys → E.nx vs σ H'
  | .rt ys d S => ∀ vs v μ' H', Up μ H μ' H' → RS F μ' H' S → RD F μ' H' v d → RDs F μ' H' vs ys → E.rt vs v H'
  | .bk ys ρ S => ∀ vs σ μ' H', Up μ H μ' H' → RS F μ' H' S → RG F μ' H' σ ρ → RDs F μ' H' vs ys → E.bk vs σ H'
  | .ct ys ρ S => ∀ vs σ μ' H', Up μ H μ' H' → RS F μ' H' S → RG F μ' H' σ ρ → RDs F μ' H' vs ys → E.ct vs σ H'
  | .exc c fs ρ S => ∀ cls dd σ μ' H', Up μ H μ' H' → RS F μ' H' S → RG F μ' H' σ ρ → XR F μ' H' cls dd c fs → W cls dd σ H'
  | .bad => False
section
variable {F : Fx} {μ μ1 : List Addr} {H H1 : Hp} {E : GEnds} {W : WX}
theorem WG'.shift {r : GOut} (u : Up μ H μ1 H1) (h : WG' F r E W μ H) : WG' F r E W μ1 H1 := by
  cases r with
  | nx ys ρ S => exact fun vs σ μ' H' u' => h vs σ μ' H' (u.trans u')
  | rt ys d S => exact fun vs v μ' H' u' => h vs v μ' H' (u.trans u')
  | bk ys ρ S => exact fun vs σ μ' H' u' => h vs σ μ' H' (u.trans u')
  | ct ys ρ S => exact fun vs σ μ' H' u' => h vs σ μ' H' (u.trans u')
  | exc c fs ρ S => exact fun cls dd σ μ' H' u' => h cls dd σ μ' H' (u.trans u')
  | bad => exact h
theorem WG'.plain {o : Out} {vs : List V} {ys : List D} (r : RDs F μ H vs ys) (h : WG' F (gOf ys o) E W μ H) : WS' F o (E.at vs) W μ H := by
  cases o with
  | nx ρ S => exact fun σ μ' H' u s g => h vs σ μ' H' u s g (r.up u)
  | rt d S => exact fun v μ' H' u s g => h vs v μ' H' u s g (r.up u)
  | bk ρ S => exact fun σ μ' H' u s g => h vs σ μ' H' u s g (r.up u)
  | ct ρ S => exact fun σ μ' H' u s g => h vs σ μ' H' u s g (r.up u)
  | exc c fs ρ S => exact h
  | bad => exact h
end
section
variable {P : Program} {w : World} {K : Frag} {mg : Str → Option Value} {base : Heap}
theorem GFn.mono {j k : Nat} {f : Addr} {fd : FuncData} {ps : List Str} {sp : SpG} (F : GFn P w K mg base j f fd ps sp) (h : j ≤ k) : GFn P w K mg base k f fd ps sp := by
  refine ⟨F.len, fun A outer s H args us vs Q E hr he hb hv hs => codeAny_mono (F.run A outer s H args us vs Q E (hr.mono h) he hb hv hs) fun r s' q => ?_⟩
  cases r with
  | error e => exact q
  | ok fl =>
    cases fl with
    | ret u =>
      obtain ⟨a, g, c, h1, h2, h3, h4, h5, h6, h7, h8, h9, wake⟩ := q
      exact ⟨a, g, c, h1, h2, h3, h4, h5, h6, h7, h8, h9, fun A S s2 hr => wake A S s2 (hr.mono h)⟩
    | _ => exact q
end
section
variable {X : Cx} {W : WX} {e : Expr} {es : List Expr} {st : Stmt} {k : Nat} {tg : TGen} {E : L2.St → XK} {mr : MA} {pos p p1 pos' : Pos}
noncomputable def oneOf {α : Type} (cs : List Str) (r : Res α) : Res α := match r with
  | .exc c fs S => if c ∈ cs then .exc c fs S else .bad
  | r => r
noncomputable def mListG (cs : List Str) (f : List D → Sto → Res (List D)) (a : MA) : MA := fun ρ S => (a ρ S).bind fun ds S1 => oneOf cs (f ds S1)
end
end Dm
set_option maxHeartbeats 1000000
namespace Dm
open PySem L2 PySem.Spec PyProof.Rows GenW
open PySem.W (Frag)
section
variable {P : Program} {w : World} {K : Frag} {mg : Str → Option Value} {base : Heap} {CX : CXT} {k : Nat} {f : Addr} {fd : FuncData} {ps : List Str} {sp : Sp}
theorem fnok_toG (F : FnOk P w K mg base CX k f fd ps sp) : FnG P w K mg base CX k f fd ps sp := ⟨F.len, fun A outer s H args us vs Q E hr => F.run A outer s H args us vs Q E hr.toRoom⟩
theorem FnD.toG {x : Str} {st : Stmt} {m : List D → Sto → Res D} (F : FnD P w K mg base k x st ps m) : FnDG P w K mg base k x st ps m :=
  let ⟨f, fd, a, b, c, d⟩ := F; ⟨f, fd, a, b, c, fnok_toG d⟩
theorem FnDD.toG {x : Str} {st : Stmt} {dvs : List V} {kws : List (Str × V)} {m : List D → Sto → Res D} (F : FnDD P w K mg base k x st dvs kws ps m) : FnDDG P w K mg base k x st dvs kws ps m :=
  let ⟨f, fd, a, b, d⟩ := F; ⟨f, fd, a, b, fnok_toG d⟩
end
section
variable {S : Sto} {ρ : Rho} {E : EX} {EO : EXO}
noncomputable def GOut.DoesE (o : GOut) (EO : EXO) (N : List D → Rho → Sto → Prop) : Prop := match o with
  | .nx ys ρ S => N ys ρ S
  | .exc c fs ρ S => EO c fs ρ S
  | _ => False
@[simp] theorem listG_does {cs : List Str} {f : List D → Sto → Res (List D)} {a : MA} {Q : List D → Sto → Prop} : (mListG cs f a ρ S).DoesE E Q = (a ρ S).DoesE E fun ds S1 => (oneOf cs (f ds S1)).DoesE E Q := by
  unfold mListG
  rw [does_bind]
end
end Dm
set_option maxHeartbeats 1000000
namespace Dm
open PySem L2 PySem.Spec PyProof.Rows GenW
open PySem.W (Frag)
section
variable {X : Cx} {W : WX} {e : Expr} {es : List Expr} {kws : List Keyword} {st : Stmt} {k : Nat} {mr mk : MA} {pos p p1 pos' : Pos}
noncomputable def mListGK (cs : List Str) (f : List D → Sto → Res (List D)) (q : Nat) (perm : List Nat) (a : MA) : MA := fun ρ S => (a ρ S).bind fun zs S1 => if zs.length = q then oneOf cs (f (perm.filterMap (zs[·]?)) S1) else .bad
@[simp] theorem listGK_does {S : Sto} {ρ : Rho} {E : EX} {cs : List Str} {f : List D → Sto → Res (List D)} {a : MA} {q : Nat} {perm : List Nat} {Q : List D → Sto → Prop} : (mListGK cs f q perm a ρ S).DoesE E Q = (a ρ S).DoesE E fun zs S1 => zs.length = q ∧ (oneOf cs (f (perm.filterMap (zs[·]?)) S1)).DoesE E Q := by
  unfold mListGK
  rw [does_bind]
  congr 1
  funext zs S1
  by_cases c : zs.length = q
  · rw [if_pos c]; simp [c]
  · rw [if_neg c]; simp [c, Res.DoesE]
end
end Dm
namespace Dm
open PySem L2
end Dm
namespace Dm
open PySem L2 PySem.Spec PyProof.Rows
open PySem.W (Frag)
section
variable {X : Cx} {W : WX} {o e : Expr} {mo me : ME} {apos cpos : Pos}
noncomputable def mCnt (mo me : ME) : ME := fun ρ S => (mo ρ S).bind fun x S1 => match lstOf S1 x with
  | none => .bad
  | some _ => (me ρ S1).bind fun y S2 => match lstOf S2 x with
    | some ds => if flatD y = true ∧ ds.all flatD = true then .ok (.int ((ds.countP (eqF · y) : Nat) : Int)) S2 else .bad
    | none => .bad
end
section
variable {S : Sto} {ρ : Rho} {Q : D → Sto → Prop} {E : EX}
@[simp] theorem does_cnt {o m : ME} : (mCnt o m ρ S).DoesE E Q = (o ρ S).DoesE E fun x S1 => (∃ l, lstOf S1 x = some l) ∧ (m ρ S1).DoesE E fun y S2 => ∃ ds, lstOf S2 x = some ds ∧ (flatD y = true ∧ ds.all flatD = true) ∧ Q (.int ((ds.countP (eqF · y) : Nat) : Int)) S2 := by
  unfold mCnt
  rw [does_bind]; congr 1; funext x S1
  cases q : lstOf S1 x with
  | none => exact propext ⟨fun h => h.elim, fun ⟨⟨_, h⟩, _⟩ => nomatch h⟩
  | some l =>
    simp only
    rw [does_bind]
    refine propext ⟨fun h => ⟨⟨l, rfl⟩, ?_⟩, fun ⟨_, h⟩ => ?_⟩
    · refine resMonoI h fun y S2 h2 => ?_
      cases q1 : lstOf S2 x with
      | none => rw [q1] at h2; exact h2.elim
      | some ds =>
        rw [q1] at h2
        simp only at h2
        by_cases c : flatD y = true ∧ ds.all flatD = true
        · rw [if_pos c] at h2
          exact ⟨ds, rfl, c, h2⟩
        · rw [if_neg c] at h2; exact h2.elim
    · refine resMonoI h fun y S2 h2 => ?_
      obtain ⟨ds, q1, c, h3⟩ := h2
      rw [q1]
      simp only
      rw [if_pos c]
      exact h3
end
end Dm
namespace Dm
open PySem L2
end Dm
namespace Dm
open PySem L2
end Dm
namespace Dm
open PySem L2 PySem.Spec PyProof.Rows
open PySem.W (Frag AllAlike Sortable dataLe dataLt alike alikeAll keyToks keyToksAll EachIs)
end Dm
namespace Dm
open PySem L2
end Dm
namespace Dm
open PySem L2
end Dm
namespace Dm
open PySem L2 PySem.Spec PyProof.Rows
open PySem.W (Frag)
noncomputable def strsOf : List D → Option (List Str)
  | [] => some []
  | .str x :: ds => (strsOf ds).map (x :: ·)
  | _ :: _ => none
@[simp] theorem strsOf_map {ns : List Str} : strsOf (ns.map .str) = some ns := by
  induction ns with
  | nil => rfl
  | cons n ns ih => rw [List.map_cons]; show (strsOf _).map _ = _; rw [ih] <;> rfl
noncomputable def joinFit (a : Str) (ys : List Str) : Prop := (ys.map (·.length)).sum + ys.length * a.length ≤ 16777216
instance {a : Str} {ys : List Str} : Decidable (joinFit a ys) := inferInstanceAs (Decidable (_ ≤ _))
noncomputable def mJoin (mo me : ME) : ME := fun ρ S => (mo ρ S).bind fun x S1 => match x with
  | .str a => (me ρ S1).bind fun y S2 => match (seqOf S2 y).bind strsOf with
    | some ys => if joinFit a ys then .ok (.str (Txt.join a ys)) S2 else .bad
    | none => .bad
  | _ => .bad
noncomputable def mSplit (mo me : ME) : MA := fun ρ S => (mo ρ S).bind fun x S1 => match x with
  | .str a => (me ρ S1).bind fun y S2 => match y with
    | .str b => if (b.length == 0) = false ∧ a.length + 2 ≤ sizeLine then .ok ((Txt.split a b).map .str) S2 else .bad
    | _ => .bad
  | _ => .bad
noncomputable def mRmPre (mo me : ME) : ME := fun ρ S => (mo ρ S).bind fun x S1 => match x with
  | .str a => (me ρ S1).bind fun y S2 => match y with
    | .str b => if a.length ≤ sizeLine then .ok (.str (Txt.removeprefix a b)) S2 else .bad
    | _ => .bad
  | _ => .bad
section
variable {S : Sto} {ρ : Rho} {E : EX} {mo me : ME}
@[simp] theorem does_join {Q : D → Sto → Prop} : (mJoin mo me ρ S).DoesE E Q = (mo ρ S).DoesE E fun x S1 => match x with
  | .str a => (me ρ S1).DoesE E fun y S2 => match (seqOf S2 y).bind strsOf with
    | some ys => joinFit a ys ∧ Q (.str (Txt.join a ys)) S2
    | none => False
  | _ => False := by
  unfold mJoin
  rw [does_bind]; congr 1; funext x S1
  cases x with
  | str a =>
    simp only
    rw [does_bind]; congr 1; funext y S2
    cases (seqOf S2 y).bind strsOf with
    | none => rfl
    | some ys =>
      simp only
      by_cases c : joinFit a ys
      · rw [if_pos c]; simp [c]
      · rw [if_neg c]; simp [c, Res.DoesE]
  | _ => rfl
@[simp] theorem does_split {Q : List D → Sto → Prop} : (mSplit mo me ρ S).DoesE E Q = (mo ρ S).DoesE E fun x S1 => match x with
  | .str a => (me ρ S1).DoesE E fun y S2 => match y with
    | .str b => ((b.length == 0) = false ∧ a.length + 2 ≤ sizeLine) ∧ Q ((Txt.split a b).map .str) S2
    | _ => False
  | _ => False := by
  unfold mSplit
  rw [does_bind]; congr 1; funext x S1
  cases x with
  | str a =>
    simp only
    rw [does_bind]; congr 1; funext y S2
    cases y with
    | str b =>
      simp only
      by_cases c : (b.length == 0) = false ∧ a.length + 2 ≤ sizeLine
      · rw [if_pos c]; simp [c]
      · rw [if_neg c]
        have : ((b.length == 0) = false ∧ a.length + 2 ≤ sizeLine) = False := eq_false c
        simp only [this, false_and]; rfl
    | _ => rfl
  | _ => rfl
@[simp] theorem does_rmpre {Q : D → Sto → Prop} : (mRmPre mo me ρ S).DoesE E Q = (mo ρ S).DoesE E fun x S1 => match x with
  | .str a => (me ρ S1).DoesE E fun y S2 => match y with
    | .str b => a.length ≤ sizeLine ∧ Q (.str (Txt.removeprefix a b)) S2
    | _ => False
  | _ => False := by
  unfold mRmPre
  rw [does_bind]; congr 1; funext x S1
  cases x with
  | str a =>
    simp only
    rw [does_bind]; congr 1; funext y S2
    cases y with
    | str b =>
      simp only
      by_cases c : a.length ≤ sizeLine
      · rw [if_pos c]; simp [c]
      · rw [if_neg c]
        have : (a.length ≤ sizeLine) = False := eq_false c
        simp only [this, false_and]; rfl
    | _ => rfl
  | _ => rfl
end
end Dm
namespace Dm
open PySem L2
end Dm
namespace Dm
open PySem L2
end Dm
namespace Dm
open PySem L2 PySem.Spec PyProof.Rows
open PySem.W (Frag)
noncomputable def chr1 (c : Nat) : Str := ⟨#[c]⟩
noncomputable def chrsD (x : Str) : List D := x.cps.toList.map fun c => D.str (chr1 c)
noncomputable def iChr (m : ME) : MA := fun ρ S => (m ρ S).bind fun d S1 => match d with
  | .str x => if x.length ≤ 16777216 then .ok (chrsD x) S1 else .bad
  | _ => .bad
section
variable {S : Sto} {ρ : Rho} {E : EX} {Q : List D → Sto → Prop}
@[simp] theorem does_chr {m : ME} : (iChr m ρ S).DoesE E Q = (m ρ S).DoesE E fun d S1 => match d with
    | .str x => x.length ≤ 16777216 ∧ Q (chrsD x) S1
    | _ => False := by
  unfold iChr
  rw [does_bind]; congr 1; funext d S1
  cases d with
  | str x =>
    simp only
    by_cases c : x.length ≤ 16777216
    · rw [if_pos c]; simp [c]
    · rw [if_neg c]; simp [c, Res.DoesE]
  | _ => rfl
end
end Dm
namespace Dm
open PySem L2
end Dm
namespace Dm
open PySem L2
end Dm
namespace Dm
open PySem L2
end Dm
namespace Dm
open PySem L2
end Dm
namespace Dm
open PySem L2 PySem.Spec PyProof.Rows
open PySem.W (Frag)
noncomputable def putFD (f : Str) (y : D) : List (Str × D) → List (Str × D)
  | [] => [(f, y)]
  | (g, x) :: r => if g = f then (g, y) :: r else (g, x) :: putFD f y r
structure FldOk (K : Frag) (mg : Str → Option Value) (cs : List Str) (f : Str) : Prop where
  ex : ∀ c, c ∈ cs → mg c = none ∨ ∃ C : Addr, mg c = some (.ref C) ∧ Cls K C ∧ NoAttr K C f
theorem FldOk.at {K : Frag} {mg : Str → Option Value} {cs : List Str} {f c : Str} {C : Addr} (T : FldOk K mg cs f) (hc : c ∈ cs) (e : mg c = some (.ref C)) : Cls K C ∧ NoAttr K C f := by
  rcases T.ex c hc with z | ⟨C', k1, k2, k3⟩
  · rw [e] at z; cases z
  · have z := k1.symm.trans e
    cases z
    exact ⟨k2, k3⟩
noncomputable def mSetF (cs : List Str) (f : Str) (m o : ME) : MS := fun ρ S => ofRes (m ρ S) ρ fun y S1 => ofRes (o ρ S1) ρ fun x S2 => match x with
  | .cell n => match S2[n]? with
    | some (.obj c fs) => if c ∈ cs ∧ fs.length < 1000 then .nx ρ (S2.set n (.obj c (putFD f y fs))) else .bad
    | _ => .bad
  | _ => .bad
structure FnQ (P : Program) (w : World) (K : Frag) (mg : Str → Option Value) (base : Heap) (k : Nat) (nm qual : Str) (st : Stmt) (f : Addr) (ps : List Str) (m : List D → Sto → Res D) : Prop where
  ex : ∃ fd, Fun K nm qual st f fd ∧ Binds K fd ps [] ∧ FnOk P w K mg base (L2.CX P w) k f fd ps (spD w K mg m)
section
variable {P : Program} {w : World} {K : Frag} {mg : Str → Option Value} {base : Heap}
theorem FnQ.mono {j k : Nat} {nm qual : Str} {st : Stmt} {f : Addr} {ps : List Str} {m : List D → Sto → Res D} (F : FnQ P w K mg base j nm qual st f ps m) (h : j ≤ k) : FnQ P w K mg base k nm qual st f ps m :=
  let ⟨fd, a, b, c⟩ := F; ⟨fd, a, b, c.mono h⟩
end
abbrev MTb := List (Str × (List D → Sto → Res D))
noncomputable def defOf (tb : MTb) (m : Str) (S : Sto) (x : D) : Option (List D → Sto → Res D) := match x with
  | .cell n => match S[n]? with
    | some (.obj c fs) => if fs.lookup m = none then tb.lookup c else none
    | _ => none
  | _ => none
instance {fs : List (Str × D)} {m : Str} : Decidable (fs.lookup m = none) := match h : fs.lookup m with
  | none => isTrue rfl
  | some _ => isFalse (fun e => nomatch e)
noncomputable def mMeth (tb : MTb) (m : Str) (o : ME) (a : MA) : ME := fun ρ S => (o ρ S).bind fun x S1 => match defOf tb m S1 x with
  | some f => (a ρ S1).bind fun ds S2 => f (x :: ds) S2
  | none => .bad
noncomputable def mMethK (tb : MTb) (m : Str) (q : Nat) (perm : List Nat) (o : ME) (a : MA) : ME := fun ρ S => (o ρ S).bind fun x S1 => match defOf tb m S1 x with
  | some f => (a ρ S1).bind fun ds S2 => if ds.length = q then f (perm.filterMap ((x :: ds)[·]?)) S2 else .bad
  | none => .bad
end Dm
namespace Dm
open PySem L2 PySem.Spec PyProof.Rows
open PySem.W (Frag)
noncomputable def mMake (c : Str) (f : List D → Sto → Res D) (n q : Nat) (perm : List Nat) (dd : List D) (a k : MA) : ME := fun ρ S => (a ρ S).bind fun xs S1 => (k ρ S1).bind fun zs S2 => if xs.length = n ∧ zs.length = q then
    (f (perm.filterMap ((.cell S2.length :: (xs ++ zs ++ dd))[·]?)) (S2 ++ [.obj c []])).bind fun d S3 => match d with
      | .non => .ok (.cell S2.length) S3
      | _ => .bad
  else .bad
noncomputable def noX {α : Type} (r : Res α) : Res α := match r with
  | .ok d S => .ok d S
  | _ => .bad
noncomputable def clsOf (tb : MTb) (S : Sto) (x : D) : Option (List D → Sto → Res D) := match x with
  | .cell n => match S[n]? with
    | some (.obj c _) => tb.lookup c
    | _ => none
  | _ => none
noncomputable def mProp (tb : MTb) (o : ME) : ME := fun ρ S => (o ρ S).bind fun x S1 => match clsOf tb S1 x with
  | some f => noX (f [x] S1)
  | none => .bad
section
variable {X : Cx} {W : WX} {e o : Expr} {mo ma mb : ME} {pos p : Pos} {tb : MTb} {j k : Nat}
noncomputable def mLenO (tb : MTb) (o : ME) : ME := fun ρ S => (o ρ S).bind fun x S1 => match defOf tb "__len__" S1 x with
  | some f => (noX (f [x] S1)).bind fun d S2 => match d with
    | .int i => if 0 ≤ i ∧ i < 9223372036854775808 then .ok (.int i) S2 else .bad
    | _ => .bad
  | none => .bad
noncomputable def mInO (neg : Bool) (tb : MTb) (a b : ME) : ME := fun ρ S => (a ρ S).bind fun y S1 => (b ρ S1).bind fun x S2 => match defOf tb "__contains__" S2 x with
  | some f => (noX (f [x, y] S2)).bind fun d S3 => match d with
    | .bl k => .ok (.bl (neg ^^ k)) S3
    | _ => .bad
  | none => .bad
variable {a b : Expr}
noncomputable def mIxO (tb : MTb) (a b : ME) : ME := fun ρ S => (a ρ S).bind fun x S1 => (b ρ S1).bind fun y S2 => match defOf tb "__getitem__" S2 x with
  | some f => f [x, y] S2
  | none => .bad
end
end Dm
namespace Dm
open PySem L2 PySem.Spec PyProof.Rows
open PySem.W (Frag)
end Dm
namespace Dm
open PySem L2 PySem.Spec PyProof.Rows
open PySem.W (Frag)
end Dm
namespace Dm
open PySem L2
end Dm
namespace Dm
open PySem L2
end Dm
namespace Dm
open PySem L2
end Dm
namespace Dm
open PySem L2 PySem.Spec PyProof.Rows
section
variable {X : Cx} {W : WX} {e b : Expr} {m k : ME} {te tk : TE} {p3 pos : Pos}
noncomputable def mBackV (m k : ME) : ME := fun ρ S => (m ρ S).bind fun x S1 => (k ρ S1).bind fun y S2 => match lstOf S2 x, y with
  | some ds, .int j => if j = 1 then .ok (.lst ds) S2 else if j = -1 then .ok (.lst ds.reverse) S2 else .bad
  | _, _ => .bad
end
section
variable {S : Sto} {ρ : Rho} {Q : D → Sto → Prop} {E : EX} {EO : EXO}
@[simp] theorem does_backV {m k : ME} : (mBackV m k ρ S).DoesE E Q = (m ρ S).DoesE E fun x S1 => (k ρ S1).DoesE E fun y S2 => match lstOf S2 x, y with
    | some ds, .int j => j = 1 ∧ Q (.lst ds) S2 ∨ j = -1 ∧ Q (.lst ds.reverse) S2
    | _, _ => False := by
  unfold mBackV
  rw [does_bind]; congr 1; funext x S1
  rw [does_bind]; congr 1; funext y S2
  cases lstOf S2 x with
  | none => simp [Res.DoesE]
  | some ds =>
    cases y with
    | int j =>
      simp only
      by_cases j1 : j = 1
      · subst j1; simp
      · by_cases j2 : j = -1
        · subst j2; simp
        · simp [j1, j2, Res.DoesE]
    | _ => simp [Res.DoesE]
end
end Dm
namespace Dm
open PySem L2
section
variable {S : Sto} {ρ : Rho} {Q : D → Sto → Prop} {E : EX} {EO : EXO} {N B C : Rho → Sto → Prop} {R : D → Sto → Prop} {cs : List Str} {f m : Str} {tb : MTb}
@[simp] theorem does_setF {v o : ME} : (mSetF cs f v o ρ S).DoesE EO N R B C = (v ρ S).DoesE (eAt EO ρ) fun y S1 => (o ρ S1).DoesE (eAt EO ρ) fun x S2 => match x with
    | .cell n => ∃ c fs, S2[n]? = some (.obj c fs) ∧ (c ∈ cs ∧ fs.length < 1000) ∧ N ρ (S2.set n (.obj c (putFD f y fs)))
    | _ => False := by
  unfold mSetF
  rw [does_ofRes]; congr 1; funext y S1
  rw [does_ofRes]; congr 1; funext x S2
  cases x with
  | cell n =>
    simp only
    cases e : S2[n]? with
    | none => simp [Out.DoesE]
    | some cc =>
      cases cc with
      | obj c fs =>
        simp only
        by_cases h : c ∈ cs ∧ fs.length < 1000
        · rw [if_pos h]
          refine propext ⟨fun z => ⟨c, fs, rfl, h, z⟩, fun ⟨c', fs', e', _, z⟩ => ?_⟩
          cases e'
          exact z
        · rw [if_neg h]
          refine propext ⟨fun z => z.elim, fun ⟨c', fs', e', h', z⟩ => ?_⟩
          cases e'
          exact (h h').elim
      | _ => simp [Out.DoesE]
  | _ => rfl
@[simp] theorem does_meth {o : ME} {a : MA} : (mMeth tb m o a ρ S).DoesE E Q = (o ρ S).DoesE E fun x S1 => ∃ g, defOf tb m S1 x = some g ∧ (a ρ S1).DoesE E fun ds S2 => (g (x :: ds) S2).DoesE E Q := by
  unfold mMeth
  rw [does_bind]; congr 1; funext x S1
  cases e : defOf tb m S1 x with
  | none => exact propext ⟨fun z => z.elim, fun ⟨_, z, _⟩ => nomatch z⟩
  | some g =>
    simp only
    rw [does_bind]
    refine propext ⟨fun z => ⟨g, rfl, z⟩, fun ⟨g', e', z⟩ => ?_⟩
    cases e'
    exact z
@[simp] theorem does_methK {q : Nat} {perm : List Nat} {o : ME} {a : MA} : (mMethK tb m q perm o a ρ S).DoesE E Q = (o ρ S).DoesE E fun x S1 => ∃ g, defOf tb m S1 x = some g ∧ (a ρ S1).DoesE E fun ds S2 => ds.length = q ∧ (g (perm.filterMap ((x :: ds)[·]?)) S2).DoesE E Q := by
  unfold mMethK
  rw [does_bind]; congr 1; funext x S1
  cases e : defOf tb m S1 x with
  | none => exact propext ⟨fun z => z.elim, fun ⟨_, z, _⟩ => nomatch z⟩
  | some g =>
    simp only
    rw [does_bind]
    have ee : ∀ ds S2, (if ds.length = q then g (perm.filterMap ((x :: ds)[·]?)) S2 else Res.bad).DoesE E Q = (ds.length = q ∧ (g (perm.filterMap ((x :: ds)[·]?)) S2).DoesE E Q) := fun ds S2 => by
      by_cases h : ds.length = q
      · rw [if_pos h]; simp [h]
      · rw [if_neg h]; simp [h, Res.DoesE]
    refine propext ⟨fun z => ⟨g, rfl, ?_⟩, fun ⟨g', e', z⟩ => ?_⟩
    · exact Res.DoesE.mono z fun ds S2 h => Eq.mp (ee ds S2) h
    · cases e'
      exact Res.DoesE.mono z fun ds S2 h => Eq.mpr (ee ds S2) h
@[simp] theorem does_make {c : Str} {g : List D → Sto → Res D} {n q : Nat} {perm : List Nat} {dd : List D} {a k : MA} : (mMake c g n q perm dd a k ρ S).DoesE E Q = (a ρ S).DoesE E fun xs S1 => (k ρ S1).DoesE E fun zs S2 => (xs.length = n ∧ zs.length = q) ∧
    (g (perm.filterMap ((.cell S2.length :: (xs ++ zs ++ dd))[·]?)) (S2 ++ [.obj c []])).DoesE E fun d S3 => d = .non ∧ Q (.cell S2.length) S3 := by
  unfold mMake
  rw [does_bind]; congr 1; funext xs S1
  rw [does_bind]; congr 1; funext zs S2
  by_cases h : xs.length = n ∧ zs.length = q
  · rw [if_pos h, does_bind]
    simp only [h, and_self, true_and]
    congr 1; funext d S3
    cases d <;> simp [Res.DoesE]
  · rw [if_neg h]; simp [h, Res.DoesE]
theorem noX_does {r : Res D} : (noX r).DoesE E Q = r.Does Q := by
  cases r <;> rfl
@[simp] theorem does_prop {o : ME} : (mProp tb o ρ S).DoesE E Q = (o ρ S).DoesE E fun x S1 => ∃ g, clsOf tb S1 x = some g ∧ (g [x] S1).Does Q := by
  unfold mProp
  rw [does_bind]; congr 1; funext x S1
  cases e : clsOf tb S1 x with
  | none => exact propext ⟨fun z => z.elim, fun ⟨_, z, _⟩ => nomatch z⟩
  | some g =>
    simp only
    rw [noX_does]
    refine propext ⟨fun z => ⟨g, rfl, z⟩, fun ⟨g', e', z⟩ => ?_⟩
    cases e'
    exact z
@[simp] theorem does_lenO {o : ME} : (mLenO tb o ρ S).DoesE E Q = (o ρ S).DoesE E fun x S1 => ∃ g, defOf tb "__len__" S1 x = some g ∧ (g [x] S1).Does fun d S2 => ∃ i : Int, d = .int i ∧ (0 ≤ i ∧ i < 9223372036854775808) ∧ Q (.int i) S2 := by
  unfold mLenO
  rw [does_bind]; congr 1; funext x S1
  cases e : defOf tb "__len__" S1 x with
  | none => exact propext ⟨fun z => z.elim, fun ⟨_, z, _⟩ => nomatch z⟩
  | some g =>
    simp only
    rw [does_bind, noX_does]
    have ee : ∀ (d : D) (S2 : Sto), (match d with | .int i => if 0 ≤ i ∧ i < 9223372036854775808 then Res.ok (.int i) S2 else .bad | _ => .bad : Res D).DoesE E Q = (∃ i : Int, d = .int i ∧ (0 ≤ i ∧ i < 9223372036854775808) ∧ Q (.int i) S2) := fun d S2 => by
      cases d with
      | int i =>
        simp only
        by_cases h : 0 ≤ i ∧ i < 9223372036854775808
        · rw [if_pos h]; exact propext ⟨fun z => ⟨i, rfl, h, z⟩, fun ⟨j, ej, _, z⟩ => by cases ej; exact z⟩
        · rw [if_neg h]; exact propext ⟨fun z => z.elim, fun ⟨j, ej, h', z⟩ => by cases ej; exact (h h').elim⟩
      | _ => exact propext ⟨fun z => z.elim, fun ⟨j, ej, _⟩ => nomatch ej⟩
    refine propext ⟨fun z => ⟨g, rfl, ?_⟩, fun ⟨g', e', z⟩ => ?_⟩
    · exact Res.DoesE.mono z fun d S2 h => Eq.mp (ee d S2) h
    · cases e'
      exact Res.DoesE.mono z fun d S2 h => Eq.mpr (ee d S2) h
@[simp] theorem does_inO {neg : Bool} {a b : ME} : (mInO neg tb a b ρ S).DoesE E Q = (a ρ S).DoesE E fun y S1 => (b ρ S1).DoesE E fun x S2 => ∃ g, defOf tb "__contains__" S2 x = some g ∧ (g [x, y] S2).Does fun d S3 => ∃ k : Bool, d = .bl k ∧ Q (.bl (neg ^^ k)) S3 := by
  unfold mInO
  rw [does_bind]; congr 1; funext y S1
  rw [does_bind]; congr 1; funext x S2
  cases e : defOf tb "__contains__" S2 x with
  | none => exact propext ⟨fun z => z.elim, fun ⟨_, z, _⟩ => nomatch z⟩
  | some g =>
    simp only
    rw [does_bind, noX_does]
    have ee : ∀ (d : D) (S3 : Sto), (match d with | .bl k => Res.ok (.bl (neg ^^ k)) S3 | _ => .bad : Res D).DoesE E Q = (∃ k : Bool, d = .bl k ∧ Q (.bl (neg ^^ k)) S3) := fun d S3 => by
      cases d with
      | bl k => exact propext ⟨fun z => ⟨k, rfl, z⟩, fun ⟨j, ej, z⟩ => by cases ej; exact z⟩
      | _ => exact propext ⟨fun z => z.elim, fun ⟨j, ej, _⟩ => nomatch ej⟩
    refine propext ⟨fun z => ⟨g, rfl, ?_⟩, fun ⟨g', e', z⟩ => ?_⟩
    · exact Res.DoesE.mono z fun d S2 h => Eq.mp (ee d S2) h
    · cases e'
      exact Res.DoesE.mono z fun d S2 h => Eq.mpr (ee d S2) h
@[simp] theorem does_ixO {a b : ME} : (mIxO tb a b ρ S).DoesE E Q = (a ρ S).DoesE E fun x S1 => (b ρ S1).DoesE E fun y S2 => ∃ g, defOf tb "__getitem__" S2 x = some g ∧ (g [x, y] S2).DoesE E Q := by
  unfold mIxO
  rw [does_bind]; congr 1; funext x S1
  rw [does_bind]; congr 1; funext y S2
  cases e : defOf tb "__getitem__" S2 x with
  | none => exact propext ⟨fun z => z.elim, fun ⟨_, z, _⟩ => nomatch z⟩
  | some g =>
    simp only
    refine propext ⟨fun z => ⟨g, rfl, z⟩, fun ⟨g', e', z⟩ => ?_⟩
    cases e'
    exact z
end
end Dm
namespace Dm
open PySem L2 PySem.Spec PyProof.Rows
open PySem.W (Frag)
noncomputable def sameCls (S : Sto) : D → D → Bool
  | .cell n, .cell k => match S[n]?, S[k]? with
    | some (.obj c _), some (.obj c' _) => c == c'
    | _, _ => false
  | _, _ => false
noncomputable def mEqO (tb : MTb) (a b : ME) : ME := fun ρ S => (a ρ S).bind fun x S1 => (b ρ S1).bind fun y S2 => match defOf tb "__eq__" S2 x, sameCls S2 x y with
  | some f, true => (noX (f [x, y] S2)).bind fun d S3 => match d with
    | .bl k => .ok (.bl k) S3
    | _ => .bad
  | _, _ => .bad
section
variable {S : Sto} {ρ : Rho} {Q : D → Sto → Prop} {E : EX} {EO : EXO} {tb : MTb}
@[simp] theorem does_eqO {a b : ME} : (mEqO tb a b ρ S).DoesE E Q = (a ρ S).DoesE E fun x S1 => (b ρ S1).DoesE E fun y S2 => ∃ g, (defOf tb "__eq__" S2 x = some g ∧ sameCls S2 x y = true) ∧ (g [x, y] S2).Does fun d S3 => ∃ k : Bool, d = .bl k ∧ Q (.bl k) S3 := by
  unfold mEqO
  rw [does_bind]; congr 1; funext x S1
  rw [does_bind]; congr 1; funext y S2
  cases e : defOf tb "__eq__" S2 x with
  | none => exact propext ⟨fun z => z.elim, fun ⟨_, ⟨z, _⟩, _⟩ => nomatch z⟩
  | some g =>
    cases e2 : sameCls S2 x y with
    | false => exact propext ⟨fun z => z.elim, fun ⟨_, ⟨_, z⟩, _⟩ => nomatch z⟩
    | true =>
      simp only
      rw [does_bind, noX_does]
      have ee : ∀ (d : D) (S3 : Sto), (match d with | .bl k => Res.ok (.bl k) S3 | _ => .bad : Res D).DoesE E Q = (∃ k : Bool, d = .bl k ∧ Q (.bl k) S3) := fun d S3 => by
        cases d with
        | bl k => exact propext ⟨fun z => ⟨k, rfl, z⟩, fun ⟨j, ej, z⟩ => by cases ej; exact z⟩
        | _ => exact propext ⟨fun z => z.elim, fun ⟨j, ej, _⟩ => nomatch ej⟩
      refine propext ⟨fun z => ⟨g, by simp, ?_⟩, fun ⟨g', ⟨e', _⟩, z⟩ => ?_⟩
      · exact Res.DoesE.mono z fun d S3 h => Eq.mp (ee d S3) h
      · cases e'
        exact Res.DoesE.mono z fun d S3 h => Eq.mpr (ee d S3) h
end
end Dm
namespace Dm
open PySem L2
end Dm
namespace Dm
open PySem L2
end Dm
namespace Dm
open PySem L2
end Dm
namespace Dm
open PySem L2 PySem.Spec PyProof.Rows
open PySem.W (Frag Looks InstAt findIn findCls readsIn typeIn subIn)
end Dm
namespace Dm
open PySem L2 PySem.Spec PyProof.Rows
open PySem.W (Frag)
noncomputable def mOrO (tb : MTb) (a b : ME) : ME := fun ρ S => (a ρ S).bind fun x S1 => (b ρ S1).bind fun y S2 => match defOf tb "__or__" S2 x, defOf tb "__or__" S2 y with
  | some f, some _ => f [x, y] S2
  | _, _ => .bad
section
variable {S : Sto} {ρ : Rho} {Q : D → Sto → Prop} {E : EX} {EO : EXO} {tb : MTb}
@[simp] theorem does_orO {a b : ME} : (mOrO tb a b ρ S).DoesE E Q = (a ρ S).DoesE E fun x S1 => (b ρ S1).DoesE E fun y S2 => ∃ g, (defOf tb "__or__" S2 x = some g ∧ (∃ g', defOf tb "__or__" S2 y = some g')) ∧ (g [x, y] S2).DoesE E Q := by
  unfold mOrO
  rw [does_bind]; congr 1; funext x S1
  rw [does_bind]; congr 1; funext y S2
  cases e : defOf tb "__or__" S2 x with
  | none => exact propext ⟨fun z => z.elim, fun ⟨_, ⟨z, _⟩, _⟩ => nomatch z⟩
  | some g =>
    cases e2 : defOf tb "__or__" S2 y with
    | none => exact propext ⟨fun z => z.elim, fun ⟨_, ⟨_, _, z⟩, _⟩ => nomatch z⟩
    | some g' => exact propext ⟨fun z => ⟨g, ⟨rfl, g', rfl⟩, z⟩, fun ⟨g0, ⟨e0, _⟩, z⟩ => by cases e0; exact z⟩
end
end Dm
namespace Dm
open PySem L2
end Dm
namespace Dm
open PySem L2 PySem.Spec PyProof.Rows
open PySem.W (Frag Looks InstAt findIn subIn clsIn)
noncomputable def okR (tb : MTb) (ecs : List Str) (S : Sto) (y : D) : Bool := match y with
  | .exn c _ => decide (c ∈ ecs)
  | .glo _ => false
  | .cell n => (defOf tb "__or__" S (.cell n)).isSome
  | _ => true
noncomputable def mOrA (tb : MTb) (ecs : List Str) (a b : ME) : ME := fun ρ S => (a ρ S).bind fun x S1 => (b ρ S1).bind fun y S2 => match defOf tb "__or__" S2 x with
  | some f => if okR tb ecs S2 y = true then f [x, y] S2 else .bad
  | none => .bad
section
variable {S : Sto} {ρ : Rho} {Q : D → Sto → Prop} {E : EX} {EO : EXO} {tb : MTb} {ecs : List Str}
@[simp] theorem does_orA {a b : ME} : (mOrA tb ecs a b ρ S).DoesE E Q = (a ρ S).DoesE E fun x S1 => (b ρ S1).DoesE E fun y S2 => ∃ g, (defOf tb "__or__" S2 x = some g ∧ okR tb ecs S2 y = true) ∧ (g [x, y] S2).DoesE E Q := by
  unfold mOrA
  rw [does_bind]; congr 1; funext x S1
  rw [does_bind]; congr 1; funext y S2
  cases e : defOf tb "__or__" S2 x with
  | none => exact propext ⟨fun z => z.elim, fun ⟨_, ⟨z, _⟩, _⟩ => nomatch z⟩
  | some g =>
    by_cases e2 : okR tb ecs S2 y = true
    · simp only [if_pos e2]
      exact propext ⟨fun z => ⟨g, ⟨rfl, e2⟩, z⟩, fun ⟨g0, ⟨e0, _⟩, z⟩ => by cases e0; exact z⟩
    · simp only [if_neg e2]
      exact propext ⟨fun z => z.elim, fun ⟨_, ⟨_, z⟩, _⟩ => absurd z e2⟩
end
end Dm
namespace Dm
open PySem L2
end Dm
namespace Dm
open PySem L2 PySem.Spec PyProof.Rows
open PySem.W (Frag Looks InstAt findIn subIn clsIn)
noncomputable def okQ (tb : MTb) (ecs : List Str) (S : Sto) (y : D) : Bool := match y with
  | .exn c _ => decide (c ∈ ecs)
  | .glo _ => false
  | .cell n => (defOf tb "__eq__" S (.cell n)).isSome
  | _ => true
noncomputable def clsD (S : Sto) (x : D) : Option Str := match x with
  | .cell n => match S[n]? with
    | some (.obj c _) => some c
    | _ => none
  | _ => none
noncomputable def lowD (lo : List (Str × Str)) (S : Sto) (x y : D) : Bool := match clsD S x, clsD S y with
  | some c, some c' => decide ((c', c) ∈ lo)
  | _, _ => false
noncomputable def mEqA (tb : MTb) (lo : List (Str × Str)) (ecs : List Str) (a b : ME) : ME := fun ρ S => (a ρ S).bind fun x S1 => (b ρ S1).bind fun y S2 => match defOf tb "__eq__" S2 x with
  | some f => if okQ tb ecs S2 y = true then (if lowD lo S2 x y = true then (match defOf tb "__eq__" S2 y with | some f' => f' [y, x] S2 | none => .bad) else f [x, y] S2) else .bad
  | none => .bad
section
variable {S : Sto} {ρ : Rho} {Q : D → Sto → Prop} {E : EX} {EO : EXO} {tb : MTb} {lo : List (Str × Str)} {ecs : List Str}
@[simp] theorem does_eqA {a b : ME} : (mEqA tb lo ecs a b ρ S).DoesE E Q = (a ρ S).DoesE E fun x S1 => (b ρ S1).DoesE E fun y S2 => ∃ g, (defOf tb "__eq__" S2 x = some g ∧ okQ tb ecs S2 y = true) ∧
    ((lowD lo S2 x y = false ∧ (g [x, y] S2).DoesE E Q) ∨ (lowD lo S2 x y = true ∧ ∃ g', defOf tb "__eq__" S2 y = some g' ∧ (g' [y, x] S2).DoesE E Q)) := by
  unfold mEqA
  rw [does_bind]; congr 1; funext x S1
  rw [does_bind]; congr 1; funext y S2
  cases e : defOf tb "__eq__" S2 x with
  | none => exact propext ⟨fun z => z.elim, fun ⟨_, ⟨z, _⟩, _⟩ => nomatch z⟩
  | some g =>
    by_cases e2 : okQ tb ecs S2 y = true
    · simp only [if_pos e2]
      cases e3 : lowD lo S2 x y with
      | false =>
        simp only [Bool.false_eq_true, if_false]
        exact propext ⟨fun z => ⟨g, ⟨rfl, e2⟩, .inl ⟨True.intro, z⟩⟩, fun ⟨g0, ⟨e0, _⟩, z⟩ => by cases e0; exact z.elim (·.2) fun z => (nomatch z.1)⟩
      | true =>
        simp only [if_true]
        cases e4 : defOf tb "__eq__" S2 y with
        | none => exact propext ⟨fun z => z.elim, fun ⟨g0, _, z⟩ => z.elim (fun z => nomatch z.1) fun ⟨_, _, z, _⟩ => nomatch z⟩
        | some g' => exact propext ⟨fun z => ⟨g, ⟨rfl, e2⟩, .inr ⟨True.intro, g', rfl, z⟩⟩, fun ⟨g0, _, z⟩ => z.elim (fun z => nomatch z.1) fun ⟨_, g1, z, q⟩ => by cases z; exact q⟩
    · simp only [if_neg e2]
      exact propext ⟨fun z => z.elim, fun ⟨_, ⟨_, z⟩, _⟩ => absurd z e2⟩
end
end Dm
namespace Dm
open PySem L2
end Dm
namespace Dm
open PySem L2 PySem.Spec PyProof.Rows
open PySem.W (Frag)
noncomputable def gFmt : Sto → D → Option D := fun _ d => match d with
  | .str y => if y.length ≤ 16777216 then some (.str y) else none
  | .int i => if i.natAbs.log2 < 1920 then some (.str (toString i)) else none
  | _ => none
noncomputable def jsD : List ME → Str → ME
  | [], acc => fun _ S => .ok (.str acc) S
  | m :: ms, acc => fun ρ S => (m ρ S).bind fun x S1 => match x with
    | .str y => if (acc ++ y).length ≤ 16777216 then jsD ms (acc ++ y) ρ S1 else .bad
    | _ => .bad
noncomputable def mStar (m : ME) (r : MA) : MA := fun ρ S => (m ρ S).bind fun x S1 => match seqOf S1 x with
  | some ds => (r ρ S1).bind fun xs S2 => .ok (ds ++ xs) S2
  | none => .bad
section
variable {S : Sto} {ρ : Rho} {E : EX}
@[simp] theorem gFmt_str {y : Str} : gFmt S (.str y) = if y.length ≤ 16777216 then some (.str y) else none := rfl
@[simp] theorem gFmt_int {i : Int} : gFmt S (.int i) = if i.natAbs.log2 < 1920 then some (.str (toString i)) else none := rfl
@[simp] theorem does_js_nil {acc : Str} {Q : D → Sto → Prop} : (jsD [] acc ρ S).DoesE E Q = Q (.str acc) S := rfl
@[simp] theorem does_js_cons {m : ME} {ms : List ME} {acc : Str} {Q : D → Sto → Prop} : (jsD (m :: ms) acc ρ S).DoesE E Q = (m ρ S).DoesE E fun x S1 => match x with
    | .str y => (acc ++ y).length ≤ 16777216 ∧ (jsD ms (acc ++ y) ρ S1).DoesE E Q
    | _ => False := by
  rw [jsD, does_bind]
  congr 1; funext x S1
  cases x with
  | str y =>
    by_cases c : (acc ++ y).length ≤ 16777216
    · show (if _ then _ else _ : Res D).DoesE E Q = (_ ∧ _)
      rw [if_pos c]
      exact propext ⟨fun z => ⟨c, z⟩, fun z => z.2⟩
    · show (if _ then _ else _ : Res D).DoesE E Q = (_ ∧ _)
      rw [if_neg c]
      exact propext ⟨fun z => z.elim, fun z => absurd z.1 c⟩
  | _ => rfl
@[simp] theorem does_star {m : ME} {r : MA} {Q : List D → Sto → Prop} : (mStar m r ρ S).DoesE E Q = (m ρ S).DoesE E fun x S1 => match seqOf S1 x with
    | some ds => (r ρ S1).DoesE E fun xs S2 => Q (ds ++ xs) S2
    | none => False := by
  unfold mStar
  rw [does_bind]
  congr 1; funext x S1
  cases seqOf S1 x with
  | none => rfl
  | some ds =>
    simp only
    rw [does_bind]; rfl
end
end Dm
namespace Dm
open PySem L2
end Dm
namespace Dm
open PySem L2
end Dm
namespace Dm
open PySem L2 PySem.Spec PyProof.Rows
open PySem.W (Frag)
end Dm
namespace Dm
open PySem L2 PySem.Spec PyProof.Rows
open PySem.W (Frag)
noncomputable def ixT (S : Sto) (x y : D) : Option Nat := match toPyS S x, toPyS S y with
  | some (.tuple ds), some d => if SeqAt.shaped (.tuple ds) = true ∧ SeqAt.shaped d = true then ds.findIdx? (PyData.eqv · d) else none
  | _, _ => none
noncomputable def mIdxT (mo me : ME) : ME := fun ρ S => (mo ρ S).bind fun x S1 => match x with
  | .tup _ => (me ρ S1).bind fun y S2 => match ixT S2 x y with
    | some j => .ok (.int (j : Nat)) S2
    | none => .bad
  | _ => .bad
section
variable {S : Sto} {ρ : Rho} {Q : D → Sto → Prop} {E : EX}
@[simp] theorem does_idxT {o m : ME} : (mIdxT o m ρ S).DoesE E Q = (o ρ S).DoesE E fun x S1 => (∃ l, x = .tup l) ∧ (m ρ S1).DoesE E fun y S2 => ∃ j, ixT S2 x y = some j ∧ Q (.int (j : Nat)) S2 := by
  unfold mIdxT
  rw [does_bind]; congr 1; funext x S1
  cases x with
  | tup l =>
    simp only
    rw [does_bind]
    refine propext ⟨fun h => ⟨⟨l, rfl⟩, resMonoI h fun y S2 h2 => ?_⟩, fun ⟨_, h⟩ => resMonoI h fun y S2 h2 => ?_⟩
    · cases q1 : ixT S2 (.tup l) y with
      | none => rw [q1] at h2; exact h2.elim
      | some j => rw [q1] at h2; exact ⟨j, rfl, h2⟩
    · obtain ⟨j, q1, h3⟩ := h2
      rw [q1]
      exact h3
  | _ => exact propext ⟨fun h => h.elim, fun ⟨⟨_, h⟩, _⟩ => nomatch h⟩
end
end Dm
namespace Dm
open PySem L2
end Dm
namespace Dm
open PySem L2 PySem.Spec PyProof.Rows
open PySem.W (Frag dataLt alike ge_data)
end Dm
namespace Dm
open PySem L2
end Dm
namespace Dm
open PySem L2
end Dm
namespace Dm
open PySem L2 PySem.Spec PyProof.Rows
open PySem.W (Frag)
section
variable {X : Cx} {W : WX} {o e : Expr} {mo me : ME} {apos cpos : Pos}
noncomputable def mPopAt (o m : ME) : ME := fun ρ S => (o ρ S).bind fun x S1 => match x with
  | .cell n => match S1[n]? with
    | some (.lst _) => (m ρ S1).bind fun y S2 => match y with
      | .int i => match S2[n]? with
        | some (.lst ds) => if 0 ≤ i ∧ i < 16777216 then match ds[i.toNat]? with
          | some d => .ok d (S2.set n (.lst (ds.eraseIdx i.toNat)))
          | none => .bad
          else .bad
        | _ => .bad
      | _ => .bad
    | _ => .bad
  | _ => .bad
end
section
variable {S : Sto} {ρ : Rho} {Q : D → Sto → Prop} {E : EX}
@[simp] theorem does_popAt {o m : ME} : (mPopAt o m ρ S).DoesE E Q = (o ρ S).DoesE E fun x S1 => ∃ n, x = .cell n ∧ (∃ l, S1[n]? = some (.lst l)) ∧ (m ρ S1).DoesE E fun y S2 => ∃ i, y = .int i ∧ ∃ ds, S2[n]? = some (.lst ds) ∧ (0 ≤ i ∧ i < 16777216) ∧ ∃ d, ds[i.toNat]? = some d ∧ Q d (S2.set n (.lst (ds.eraseIdx i.toNat))) := by
  unfold mPopAt
  rw [does_bind]; congr 1; funext x S1
  cases x with
  | cell n =>
    simp only
    cases q : S1[n]? with
    | none => exact propext ⟨fun h => h.elim, fun ⟨_, h, ⟨l, h2⟩, _⟩ => by cases h; rw [q] at h2; cases h2⟩
    | some c =>
      cases c with
      | lst l =>
        simp only
        rw [does_bind]
        refine propext ⟨fun h => ⟨n, rfl, ⟨l, q⟩, resMonoI h fun y S2 h2 => ?_⟩, fun ⟨_, h0, _, h⟩ => ?_⟩
        · cases y with
          | int i =>
            simp only at h2
            cases q2 : S2[n]? with
            | none => rw [q2] at h2; exact h2.elim
            | some c2 =>
              rw [q2] at h2
              cases c2 with
              | lst ds =>
                simp only at h2
                by_cases c : 0 ≤ i ∧ i < 16777216
                · rw [if_pos c] at h2
                  cases hd : ds[i.toNat]? with
                  | none => rw [hd] at h2; exact h2.elim
                  | some d => rw [hd] at h2; exact ⟨i, rfl, ds, rfl, c, d, hd, h2⟩
                · rw [if_neg c] at h2; exact h2.elim
              | _ => exact h2.elim
          | _ => exact h2.elim
        · cases h0
          refine resMonoI h fun y S2 h2 => ?_
          obtain ⟨i, rfl, ds, q2, c, d, hd, h3⟩ := h2
          simp only
          rw [q2]
          simp only
          rw [if_pos c, hd]
          exact h3
      | _ => exact propext ⟨fun h => h.elim, fun ⟨_, h, ⟨l, h2⟩, _⟩ => by cases h; rw [q] at h2; cases h2⟩
  | _ => exact propext ⟨fun h => h.elim, fun ⟨_, h, _⟩ => nomatch h⟩
end
end Dm
namespace Dm
open PySem L2
end Dm
namespace Dm
open PySem L2 PySem.Spec PyProof.Rows
open PySem.W (Frag)
noncomputable def gMulA : Sto → D → D → Option D := fun _ x y => match x, y with
  | .tup ds, .int k => if ds.length ≠ 0 ∧ -1000 ≤ k ∧ k ≤ 1000 ∧ ds.length ≤ 1000 then some (.tup (List.replicate k.toNat ds).flatten) else none
  | _, _ => none
@[simp] theorem gMulA_tup {S : Sto} {ds : List D} {k : Int} : gMulA S (.tup ds) (.int k) = if ds.length ≠ 0 ∧ -1000 ≤ k ∧ k ≤ 1000 ∧ ds.length ≤ 1000 then some (.tup (List.replicate k.toNat ds).flatten) else none := rfl
end Dm
namespace Dm
open PySem L2
end Dm
namespace Dm
open PySem L2
end Dm
namespace Dm
open PySem PySem.Spec PyProof.Rows GenW L2
noncomputable def numb : GenState → GenState
  | .suspended _ l c p fs cl => .suspended (fun _ => .unsupported "asleep") l c p fs cl
  | x => x
theorem numb_bare (y : GenState) : (numb y).bare = y.bare := by cases y <;> rfl
noncomputable def isSusp : GenState → Prop
  | .suspended .. => True
  | _ => False
abbrev Slp := Nat → Option GenState
structure SlT (T : Slp) (G G' : Array GenState) : Prop where
  size : G'.size = G.size
  slp : ∀ i y, T i = some y → isSusp y ∧ G[i]? = some (numb y) ∧ G'[i]? = some y
  oth : ∀ i, T i = none → G'[i]? = G[i]?
noncomputable def NoF (T : Slp) (fs : List Frame) : Prop := ∀ g k l c p, Frame.gen g k l c p ∈ fs → T g = none
noncomputable def NoS (T : Slp) (G : Array GenState) : Prop := ∀ i k l c p fs cl, T i = none → G[i]? = some (.suspended k l c p fs cl) → NoF T fs
section
variable {T : Slp} {G G' : Array GenState} {g : Nat} {x : GenState}
theorem SlT.push (h : SlT T G G') : SlT T (G.push x) (G'.push x) := by
  refine ⟨by simp [h.size], fun i y e => ?_, fun i e => ?_⟩
  · obtain ⟨h1, h2, h3⟩ := h.slp i y e
    have l1 := (Array.getElem?_eq_some_iff.mp h2).1
    have l2 := (Array.getElem?_eq_some_iff.mp h3).1
    exact ⟨h1, by rw [Array.getElem?_push, if_neg (by omega)]; exact h2, by rw [Array.getElem?_push, if_neg (by omega)]; exact h3⟩
  · rw [Array.getElem?_push, Array.getElem?_push, h.size, h.oth i e]
theorem NoS.push (h : NoS T G) (hx : ∀ k l c p fs cl, x = .suspended k l c p fs cl → NoF T fs) : NoS T (G.push x) := by
  intro i k l c p fs cl e q
  rw [Array.getElem?_push] at q
  split at q
  · exact hx k l c p fs cl (Option.some.inj q)
  · exact h i k l c p fs cl e q
theorem NoF.append {a b : List Frame} (ha : NoF T a) (hb : NoF T b) : NoF T (a ++ b) := fun g k l c p z => (List.mem_append.mp z).elim (ha g k l c p) (hb g k l c p)
theorem NoF.nil : NoF T [] := fun _ _ _ _ _ z => nomatch z
theorem NoF.tail {F : Frame} {fs : List Frame} (h : NoF T (F :: fs)) : NoF T fs := fun g k l c p z => h g k l c p (List.mem_cons_of_mem _ z)
theorem NoF.ret {k : Result → Sem PySem.Fin} {h : Option Value} {g : Bool} {l kp : List Value} {c : Code} {p : Pos} : NoF T [.ret k h g l c p kp] := fun _ _ _ _ _ z => by
  rw [List.mem_singleton] at z
  cases z
end
abbrev wg (s : Shared) (G : Array GenState) : Shared := { s with gens := G }
structure SlS (T : Slp) (s' s'' : Shared) : Prop where
  eq : s'' = wg s' s''.gens
  tab : SlT T s'.gens s''.gens
  no : NoS T s'.gens
theorem SlS.of {T : Slp} {s : Shared} {G : Array GenState} (r : SlT T s.gens G) (n : NoS T s.gens) : SlS T s (wg s G) := ⟨rfl, r, n⟩
theorem SlS.stay {T : Slp} {s' s'' : Shared} (h : SlS T s' s'') {i : Nat} {y : GenState} (ht : T i = some y) : s''.gens[i]? = some y := (h.tab.slp i y ht).2.2
theorem SlS.bare {T : Slp} {s' s'' : Shared} (h : SlS T s' s'') (b : AllBare s'.gens) : AllBare s''.gens := by
  intro x hx
  obtain ⟨i, hi, e⟩ := Array.mem_iff_getElem.mp hx
  have e2 : s''.gens[i]? = some x := by rw [Array.getElem?_eq_getElem hi, e]
  cases ht : T i with
  | none =>
    rw [h.tab.oth i ht] at e2
    exact b x (Array.mem_of_getElem? e2)
  | some y =>
    obtain ⟨_, h2, h3⟩ := h.tab.slp i y ht
    rw [e2] at h3
    cases h3
    rw [← numb_bare]
    exact b _ (Array.mem_of_getElem? h2)
end Dm
set_option maxHeartbeats 1000000
namespace Dm
open PySem L2 PySem.Spec PyProof.Rows GenW
open PySem.W (Frag)
noncomputable def cutH (h : Heap) (L : Nat) : Heap := { h with objs := h.objs.extract 0 L }
theorem cutH_size {h : Heap} {L : Nat} (hl : L ≤ h.objs.size) : (cutH h L).objs.size = L := by
  show (h.objs.extract 0 L).size = L
  rw [Array.size_extract]; omega
theorem cutH_get {h : Heap} {L : Nat} {b : Nat} (lt : b < L) : (cutH h L).get? b = h.get? b := by
  unfold cutH Heap.get?
  have e : (h.objs.extract 0 L)[b]? = h.objs[b]? := by
    by_cases hb : b < h.objs.size
    · rw [Array.getElem?_extract, if_pos (by omega)]; simp
    · rw [Array.getElem?_eq_none (by rw [Array.size_extract]; omega), Array.getElem?_eq_none (by omega)]
  simp only [e]
theorem of_cutH {h : Heap} {L : Nat} {b : Addr} {o : Obj} (e : (cutH h L).get? b = some o) : b < L ∧ h.get? b = some o := by
  have lt : b < L := by
    have := Heap.lt_size e
    have q : (cutH h L).objs.size ≤ L := by
      show (h.objs.extract 0 L).size ≤ L
      rw [Array.size_extract]; omega
    exact Nat.lt_of_lt_of_le this q
  exact ⟨lt, (cutH_get lt).symm.trans e⟩
theorem cutH_funs {h base : Heap} {L : Nat} : ∀ {l : List Env}, (∀ b ∈ frs l, b < L) → h.FunFrames base l → (cutH h L).FunFrames base l
  | [], _, _ => trivial
  | env :: rest, hl, ⟨hk, ⟨a, o, hf, hn, ho, hd⟩, hr⟩ => by
    have sub : ∀ b ∈ frs rest, b < L := fun b hb => hl b (by unfold frs; rw [List.filterMap_cons, hf]; exact List.mem_cons_of_mem _ hb)
    have ha : a < L := hl a (by unfold frs; rw [List.filterMap_cons, hf]; exact List.mem_cons_self)
    exact ⟨hk, ⟨a, o, hf, hn, (cutH_get ha).trans ho, hd⟩, cutH_funs sub hr⟩
noncomputable def gcx2 (P : Program) (w : World) (K : Frag) (mg : Str → Option Value) (base : Heap) (N : List Str) (qual : Str) (scope : Scope) (f : Addr) (cd : Value) (A : Around) (outer : List Env) (L : Nat) (s : Shared) (H : Hp) (pn : List (Addr × Obj)) : Cx where
  prog := P
  w := w
  K := K
  mg := mg
  base := base
  A := A.deeper (envOfC qual scope L f cd)
  N := N
  s_0 := s
  H_0 := H
  env := envOfC qual scope L f cd
  outer := outer
  stack := envOfC qual scope L f cd :: outer
  ex := []
  fn := fun _ => true
  calm := true
  pn := pn
  xe := fun _ _ => False
abbrev cutS (s : Shared) (L : Nat) : Shared := { s with heap := cutH s.heap L }
structure NoCells (scope : Scope) : Prop where
  kind : scope.kind = .function
  co : scope.isCoroutine = false
  nc : ∀ y ∈ scope.names, y.2 ≠ .cell ∧ y.2 ≠ .free
  no : ∀ n, cellsFrom n scope.names [] = []
structure W2 (P : Program) (w : World) (K : Frag) (mg : Str → Option Value) (base : Heap) (A : Around) (outer : List Env) (L : Nat) (Hb : Hp) (s : Shared) : Prop where
  frames : A.frames = some outer
  hd : A.handled = none
  mod : Mod K mg base
  bs : ∀ b o, base.get? b = some o → s.heap.get? b = some o ∧ Hb b = none
  bl : base.objs.size ≤ L
  funs : s.heap.FunFrames base outer
  frl : ∀ b ∈ frs outer, b < L
  frf : ∀ b ∈ frs outer, Hb b = none
  hb : ∀ b u, Hb b = some u → b < L ∧ ∃ o xs, u = .frz o (.tup xs)
  hok : HOk P w Hb s.heap
  bare : AllBare s.gens
  le : L < s.heap.objs.size
noncomputable def kpB : Option HO → Bool
  | some (.lst _) => true
  | some (.frz _ (.tup _)) => true
  | some (.frz _ (.lst _)) => true
  | _ => false
noncomputable def mixH (L : Nat) (mu : List Addr) (Hb Hg : Hp) (h : Heap) : Hp := fun b =>
  if b ∈ mu then none else if b < L then Hb b else match Hg b with
    | some (.lst xs) => (h.get? b).map fun o => .frz o (.lst xs)
    | some (.frz o (.tup xs)) => some (.frz o (.tup xs))
    | some (.frz o (.lst xs)) => some (.frz o (.lst xs))
    | _ => (h.get? b).map fun o => .frz o (.ext fun _ => True)
section
variable {P : Program} {w : World} {L : Nat} {mu : List Addr} {Hb Hg : Hp} {h hY : Heap}
theorem mixH_mu {b : Addr} (hb : b ∈ mu) : mixH L mu Hb Hg h b = none := by unfold mixH; rw [if_pos hb]
theorem mixH_lo {b : Addr} (hm : b ∉ mu) (hb : b < L) : mixH L mu Hb Hg h b = Hb b := by unfold mixH; rw [if_neg hm, if_pos hb]
theorem mixH_hi {b : Addr} (hm : b ∉ mu) (hb : L ≤ b) : mixH L mu Hb Hg h b = match Hg b with
    | some (.lst xs) => (h.get? b).map fun o => .frz o (.lst xs)
    | some (.frz o (.tup xs)) => some (.frz o (.tup xs))
    | some (.frz o (.lst xs)) => some (.frz o (.lst xs))
    | _ => (h.get? b).map fun o => .frz o (.ext fun _ => True) := by
  unfold mixH
  rw [if_neg hm, if_neg (Nat.not_lt.mpr hb)]
theorem any_ext {H : Hp} {h : Heap} {b : Addr} {o : Obj} (e : h.get? b = some o) : ObjOk P w H h b (.frz o (.ext fun _ => True)) := ⟨e, trivial, ⟨o, e⟩, fun _ _ _ _ => trivial⟩
theorem mixH_there {b : Addr} {o : Obj} (hm : b ∉ mu) (hl : L ≤ b) (e : h.get? b = some o) : ∃ o' y, mixH L mu Hb Hg h b = some (.frz o' y) ∧ (kpB (some (.frz o' y)) = true → kpB (Hg b) = true) := by
  rw [mixH_hi hm hl]
  split
  · rename_i xs q
    rw [e, q]
    exact ⟨o, _, rfl, fun _ => rfl⟩
  · rename_i o' xs q
    exact ⟨o', _, rfl, fun _ => by rw [q]; rfl⟩
  · rename_i o' xs q
    exact ⟨o', _, rfl, fun _ => by rw [q]; rfl⟩
  · rw [e]
    exact ⟨o, _, rfl, fun z => by cases z⟩
theorem mixH_ok (hHb : HOk P w Hb h) (hb : ∀ b u, Hb b = some u → b < L ∧ ∃ o xs, u = .frz o (.tup xs)) (hHg : HOk P w Hg hY) (kp : ∀ b o, L ≤ b → b ∉ mu → kpB (Hg b) = true → hY.get? b = some o → h.get? b = some o) : HOk P w (mixH L mu Hb Hg h) h := by
  intro b u e
  by_cases hm : b ∈ mu
  · rw [mixH_mu hm] at e; cases e
  by_cases hl : b < L
  · rw [mixH_lo hm hl] at e
    obtain ⟨_, o, xs, z⟩ := hb b u e
    subst z
    exact hHb b _ e
  · have hl' := Nat.not_lt.mp hl
    rw [mixH_hi hm hl'] at e
    split at e
    · rename_i xs q
      obtain ⟨z, its, n, r, e2⟩ := hHg b _ q
      have e3 := kp b _ hl' hm (by rw [q]; rfl) e2
      rw [e3] at e
      cases e
      exact ⟨e3, z, its, n, r, e3⟩
    · rename_i o xs q
      cases e
      obtain ⟨e2, z, its, r, ob, e4, c⟩ := hHg b _ q
      have e3 := kp b _ hl' hm (by rw [q]; rfl) e2
      rw [e2] at e4
      cases e4
      exact ⟨e3, z, its, r, o, e3, c⟩
    · rename_i o xs q
      cases e
      obtain ⟨e2, z, its, n, r, e4⟩ := hHg b _ q
      have e3 := kp b _ hl' hm (by rw [q]; rfl) e2
      rw [e2] at e4
      cases e4
      exact ⟨e3, z, its, n, r, e3⟩
    · cases q : h.get? b with
      | none => rw [q] at e; cases e
      | some o => rw [q] at e; cases e; exact any_ext q
end
section
variable {P : Program} {w : World} {K : Frag} {mg : Str → Option Value} {base : Heap} {N : List Str} {qual : Str} {scope : Scope} {f : Addr} {cd : Value} {A : Around} {outer : List Env} {L : Nat} {Hb : Hp} {s : Shared} {pn : List (Addr × Obj)}
theorem NoCells.cells (S : NoCells scope) : (envOfC qual scope L f cd).cells = [] := S.no (L + 1)
theorem NoCells.lookup (S : NoCells scope) (x : Str) : scope.names.lookup x ≠ some .cell ∧ scope.names.lookup x ≠ some .free :=
  ⟨fun e => (S.nc _ (PySem.mem_of_lookup e)).1 rfl, fun e => (S.nc _ (PySem.mem_of_lookup e)).2 rfl⟩
theorem NoCells.cl (S : NoCells scope) {x : Str} {c : Addr} (h : (envOfC qual scope L f cd).cells.lookup x = some c) : False := by
  rw [S.cells] at h; cases h
theorem W2.ok (W : W2 P w K mg base A outer L Hb s) (S : NoCells scope) : (gcx2 P w K mg base N qual scope f cd A outer L (cutS s L) Hb pn).Ok where
  mod := W.mod
  kind := S.kind
  glob := rfl
  blt := rfl
  above := Nat.le_of_eq (cutH_size (Nat.le_of_lt W.le))
  inj := fun x y c h => (S.cl h).elim
  has := fun x h => (h.elim (S.lookup x).1 (S.lookup x).2).elim
  cab := fun x c _ h => (S.cl h).elim
  hd := fun _ => W.hd
  frames := Around.frames_deeper W.frames
  stk := .inr ⟨rfl, rfl⟩
  exf := fun b z => absurd z (by show b ∉ ([] : List Addr); simp)
  bs := fun b o e => ⟨(cutH_get (Nat.lt_of_lt_of_le (Heap.lt_size e) W.bl)).trans (W.bs b o e).1, (W.bs b o e).2⟩
  bsz := by
    show base.objs.size ≤ (cutH s.heap L).objs.size
    rw [cutH_size (Nat.le_of_lt W.le)]; exact W.bl
  noex := fun b _ _ => by show b ∉ ([] : List Addr); simp
  exfs := fun b z => absurd z (by show b ∉ ([] : List Addr); simp)
  funs := cutH_funs W.frl W.funs
  frf := W.frf
noncomputable def LocAt (N : List Str) (qual : Str) (scope : Scope) (f : Addr) (cd : Value) (L : Nat) (σ : L2.St) (h : Heap) : Prop :=
  ∃ m, h.Ns L m ∧ ∀ (i : Nat) (x : Str) (v : V), N[i]? = some x → σ[i]? = some (some v) → Vis scope x → ∃ u, RelV v u ∧ Look (envOfC qual scope L f cd) h m x u
theorem LocAt.stay (S : NoCells scope) {σ : L2.St} {h h' : Heap} (k : ∀ o, h.get? L = some o → h'.get? L = some o) (l : LocAt N qual scope f cd L σ h) : LocAt N qual scope f cd L σ h' := by
  obtain ⟨m, ⟨o, es, ep, e, r⟩, hl⟩ := l
  refine ⟨m, ⟨o, es, ep, k o e, r⟩, fun i x v e1 e2 e3 => ?_⟩
  obtain ⟨u, r, q⟩ := hl i x v e1 e2 e3
  refine ⟨u, r, ?_⟩
  rcases q with q | ⟨_, c, q, _⟩
  · exact .inl q
  · exact (S.cl q).elim
theorem W2.inv (W : W2 P w K mg base A outer L Hb s) (S : NoCells scope) {mu : List Addr} {Hg : Hp} {hY : Heap} {σ : L2.St} (hmu : ∀ b ∈ mu, L ≤ b) (hL : L ∈ mu) (hHg : HOk P w Hg hY)
    (kp : ∀ b o, L ≤ b → b ∉ mu → kpB (Hg b) = true → hY.get? b = some o → s.heap.get? b = some o) (hloc : LocAt N qual scope f cd L σ s.heap) (hlen : σ.length = N.length)
    (hpn : ∀ p ∈ pn, p.1 ∈ mu ∧ s.heap.get? p.1 = some p.2 ∧ p.1 ≠ L ∧ ∀ v, p.2.data ≠ .cell v) : Inv (gcx2 P w K mg base N qual scope f cd A outer L (cutS s L) Hb pn) [] σ (mixH L mu Hb Hg s.heap) s := by
  have nmu : ∀ b, b < L → b ∉ mu := fun b hb hm => absurd (Nat.lt_of_lt_of_le hb (hmu b hm)) (Nat.lt_irrefl _)
  refine ⟨W.ok S, rfl, W.bare, ⟨fun b o e _ _ _ => (of_cutH e).2, fun b o e _ _ _ => ⟨o.slots, (of_cutH e).2⟩, fun b o e n _ => ?_, fun b o e _ => ⟨o, (of_cutH e).2⟩, fun b xs e => ?_, fun b o u e => ?_, fun b ps e => ?_⟩, hloc, fun x c h => (S.cl h).elim, mixH_mu hL, fun x c h => (S.cl h).elim, fun p hp => ?_, mixH_ok W.hok W.hb hHg kp, hlen⟩
  · have lt := (of_cutH e).1
    rw [mixH_lo (nmu b lt) lt]
    exact n
  · obtain ⟨_, o, ys, z⟩ := W.hb b _ e
    cases z
  · obtain ⟨lt, _⟩ := W.hb b _ e
    rw [mixH_lo (nmu b lt) lt]
    exact e
  · obtain ⟨_, o, ys, z⟩ := W.hb b _ e
    cases z
  · rcases List.mem_append.mp hp with hp | hp
    · obtain ⟨h1, h2, h3, h4⟩ := hpn p hp
      exact ⟨h2, mixH_mu h1, h3, fun z => absurd (Nat.lt_of_lt_of_le (W.frl _ z) (hmu _ h1)) (Nat.lt_irrefl _), h4⟩
    · cases hp
noncomputable def Held (L : Nat) (mu kp : List Addr) (h : Heap) (H : Hp) : Prop := ∀ b o, L ≤ b → h.get? b = some o → b ∉ mu → (∃ o' y, H b = some (.frz o' y)) ∧ (kpB (H b) = true → b ∈ kp)
end
end Dm
set_option maxHeartbeats 1000000
namespace Dm
open PySem L2 PySem.Spec PyProof.Rows GenW
open PySem.W (Frag)
open Sem (wp)
noncomputable def Deads (s s' : Shared) : Prop := s.heap.objs.size ≤ s'.heap.objs.size ∧ ∀ b, b < s.heap.objs.size → s.heap.get? b = none → s'.heap.get? b = none
theorem Deads.refl {s : Shared} : Deads s s := ⟨Nat.le_refl _, fun _ _ h => h⟩
theorem Deads.trans {s s1 s2 : Shared} (a : Deads s s1) (b : Deads s1 s2) : Deads s s2 := ⟨Nat.le_trans a.1 b.1, fun c h1 h2 => b.2 c (Nat.lt_of_lt_of_le h1 a.1) (a.2 c h1 h2)⟩
end Dm
set_option maxHeartbeats 1000000
namespace Dm
open PySem L2 PySem.Spec PyProof.Rows GenW
open PySem.W (Frag)
abbrev Lnk := Nat → Shared → List Addr → List Addr → Prop
section
variable {P : Program} {w : World} {K : Frag} {mg : Str → Option Value} {base : Heap} {N : List Str} {qual : Str} {scope : Scope} {f : Addr} {cd : Value} {A : Around} {outer : List Env} {L : Nat} {Hb : Hp} {a : Addr} {g : Nat} {go : Obj} {ds : List D} {Lk : Lnk}
structure GnAt (P : Program) (w : World) (K : Frag) (mg : Str → Option Value) (base : Heap) (N : List Str) (qual : Str) (scope : Scope) (f : Addr) (cd : Value) (A : Around) (outer : List Env) (L : Nat) (Hb : Hp) (a : Addr) (go : Obj) (mu kp : List Addr) (s₀ s : Shared) (pins : List (Addr × Obj)) (σ : L2.St) (H : Hp) : Prop where
  wk : W2 P w K mg base A outer L Hb s₀
  muL : ∀ b ∈ mu, L ≤ b
  inv : Inv (gcx2 P w K mg base N qual scope f cd A outer L (cutS s₀ L) Hb [(a, go)]) pins σ H s
  held : Held L mu kp s₀.heap H
  same : ∀ b o, L ≤ b → s₀.heap.get? b = some o → b ∉ mu → ∀ o' y, H b = some (.frz o' y) → o' = o
  dead : Deads s₀ s
  al : L < a
theorem GnAt.next {mu kp : List Addr} {s₀ s s2 : Shared} {pins : List (Addr × Obj)} {σ : L2.St} {H : Hp} (x : GnAt P w K mg base N qual scope f cd A outer L Hb a go mu kp s₀ s pins σ H) (S : NoCells scope) {mu' : List Addr} (hL : L ∈ mu') (ha : a ∈ mu') (hmu : ∀ b ∈ mu', L ≤ b)
    (W : W2 P w K mg base A outer L Hb s2) (keep : ∀ b o, (b ∈ mu' ∨ b ∈ (List.range s.heap.objs.size).filter fun b => decide (L ≤ b) && kpB (H b)) → s.heap.get? b = some o → s2.heap.get? b = some o) :
    GnAt P w K mg base N qual scope f cd A outer L Hb a go mu' ((List.range s.heap.objs.size).filter fun b => decide (L ≤ b) && kpB (H b)) s2 s2 [] σ (mixH L mu' Hb H s2.heap) := by
  have inK : ∀ b, L ≤ b → kpB (H b) = true → b ∈ (List.range s.heap.objs.size).filter fun b => decide (L ≤ b) && kpB (H b) := fun b hb hk => by
    refine List.mem_filter.mpr ⟨List.mem_range.mpr ?_, by simp [hb, hk]⟩
    cases e : H b with
    | none => rw [e] at hk; cases hk
    | some u => exact x.inv.hok.lt e
  have I := W.inv (pn := [(a, go)]) S hmu hL x.inv.hok (fun b o hb _ hk e => keep b o (.inr (inK b hb hk)) e) (LocAt.stay S (fun o e => keep L o (.inl hL) e) x.inv.loc) x.inv.len (fun p hp => by
    rw [List.mem_singleton.mp hp]
    obtain ⟨h1, h2, h3, h4, h5⟩ := x.inv.pin (a, go) (List.mem_append_left _ (by exact List.mem_singleton.mpr rfl))
    exact ⟨ha, keep a go (.inl ha) h1, h3, h5⟩)
  refine ⟨W, hmu, I, fun b o hl e hm => ?_, fun b o hl e hm o' y q => ?_, .refl, x.al⟩
  · obtain ⟨o', y, q, z⟩ := mixH_there (Hb := Hb) (Hg := H) hm hl e
    exact ⟨⟨o', y, q⟩, fun h => inK b hl (z (by rw [← q]; exact h))⟩
  · have := (I.hok b _ q).1
    rw [e] at this
    exact (Option.some.inj this).symm
end
end Dm
set_option maxHeartbeats 1000000
namespace Dm
open PySem L2 PySem.Spec PyProof.Rows GenW
open PySem.W (Frag)
end Dm
set_option maxHeartbeats 1000000
namespace Dm
open PySem L2 PySem.Spec PyProof.Rows GenW
open PySem.W (Frag)
end Dm
set_option maxHeartbeats 1000000
namespace Dm
open PySem L2 PySem.Spec PyProof.Rows GenW
open PySem.W (Frag)
end Dm
set_option maxHeartbeats 1000000
namespace Dm
open PySem L2 PySem.Spec PyProof.Rows GenW
open PySem.W (Frag)
end Dm
set_option maxHeartbeats 1000000
namespace Dm
open PySem L2 PySem.Spec PyProof.Rows GenW
open PySem.W (Frag)
end Dm
set_option maxHeartbeats 1000000
namespace Dm
open PySem L2 PySem.Spec PyProof.Rows GenW
open PySem.W (Frag)
section
variable {X : Cx} {pins : List (Addr × Obj)} {ξ : List Addr} {L : Nat} {Hb : Hp} {a : Addr} {g : Nat} {mu kp : List Addr} {μ : List Addr} {σ : L2.St} {H : Hp} {S : Sto} {ρ : Rho} {s : Shared} {Φ : Nat → List Addr → L2.St → Hp → Sto → Rho → Prop} {ds : List D}
theorem Inv.gens (I : Inv X pins σ H s) {G : Array GenState} (hb : AllBare G) : Inv X pins σ H (wg s G) := ⟨I.ok, I.os, hb, I.base, I.loc, I.cell, I.free, I.freeC, I.pin, I.hok, I.len⟩
end
end Dm
set_option maxHeartbeats 1000000
namespace Dm
open PySem L2 PySem.Spec PyProof.Rows GenW
open PySem.W (Frag)
end Dm
set_option maxHeartbeats 1000000
namespace Dm
open PySem L2 PySem.Spec PyProof.Rows GenW
open PySem.W (Frag)
end Dm
namespace Dm
open PySem L2
end Dm
namespace Dm
open PySem L2
end Dm
namespace Dm
open PySem L2
end Dm
namespace Dm
open PySem L2
noncomputable section
noncomputable def m_law_any_odd_v2 : List D → Sto → Res D := mDef 1 2 (mSeq (mAsg 1 (mFz (mLst (mCons (mK .non) (mCons (mK (.bl true)) (mCons (mK (.bl false)) (mCons (mK (.int 0)) (mCons (mK (.int 1)) (mCons (mK (.int (-1))) (mCons (mK (.int 8)) (mCons (mK (.int 9)) (mCons (mK (.int 1000000000000000000000000000000)) (mCons (mK (.int (-1000000000000000000000000000000))) mNil))))))))))))) (mSeq (mAsg 1 (mFz (mCatV (mVar 1) (mLst (mCons (mK (.str "")) (mCons (mK (.str "found")) (mCons (mK (.str "0")) (mCons (mK (.str "near")) (mCons (mTup mNil) (mCons (mFz (mLst mNil)) (mCons (mFz (mLst (mCons (mK (.int 0)) mNil))) (mCons (mTup (mCons (mK (.int 0)) mNil)) (mCons (mTup (mCons (mTup mNil) mNil)) mNil))))))))))))) (mSeq (mAsg 1 (mFz (mCatV (mVar 1) (mLst (mCons (mTup (mCons (mK (.str "found")) mNil)) (mCons (mFz (mLst (mCons (mK (.str "found")) mNil))) (mCons (mK (.str "foundx")) (mCons (mK (.str "Same")) (mCons (mK (.int 1000001)) mNil))))))))) (mSeq (mAsg 1 (mFz (mCatV (mVar 1) (mLst (mCons (mNewTX "Refused" "a find is refused" 1 (mCons (mK (.int 1)) mNil)) (mCons (mNewT "HourError" "odd") (mCons (mTup (mCons (mK (.str "same")) (mCons (mK (.int 0)) (mCons (mK (.int 0)) mNil)))) (mCons (mFz (mLst (mCons (mTup mNil) mNil))) mNil)))))))) (mRet (mOp gIx (mVar 1) (mCall m_law_pick_v2 (mCons (mVar 0) (mCons (mCallB gLen (mCons (mVar 1) mNil)) mNil)))))))))
noncomputable def m_law_asked_v7 : List D → Sto → Res D := mDef 4 5 (mSeq (mAsg 4 (mCallB (gReprX ["HourError", "Refused"]) (mCons (mVar 3) mNil))) (mRet (mAnd (mCall m_law_tells (mCons (mCall m_is_wish (mCons (mVar 0) (mCons (mVar 1) (mCons (mVar 3) mNil)))) (mCons (mCall m_law_is_want (mCons (mVar 2) (mCons (mVar 3) mNil))) mNil))) (mOp gEq (mCallB (gReprX ["HourError", "Refused"]) (mCons (mVar 3) mNil)) (mVar 4)))))
noncomputable def m_law_right_v31 : List D → Sto → Res D := mDef 1 11 (mSeq (mAsg 1 (mCall m_law_draw_fields (mCons (mVar 0) (mCons (mOp gAdd (mK (.int 1)) (mCall m_law_pick_v2 (mCons (mVar 0) (mCons (mK (.int 2)) mNil)))) (mCons (mK (.int 3)) mNil))))) (mSeq (mAsg 2 (mCall m_law_draw_tale (mCons (mVar 0) (mCons (mCallB gLen (mCons (mVar 1) mNil)) (mCons (mCall m_law_pick_v2 (mCons (mVar 0) (mCons (mK (.int 9)) mNil))) (mCons (mK (.int 8)) (mCons (mK (.bl true)) (mCons (mCall m_law_minutes_v2 (mCons (mVar 0) (mCons (mVar 1) mNil))) (mCons (mTup mNil) mNil))))))))) (mSeq (mPar 3 4 (mCons (mCall m_law_kinds_in (mCons (mVar 2) mNil)) (mCons (mCall m_law_hours_in (mCons (mVar 2) mNil)) mNil))) (mSeq (mFor (iRange1 (mCons (mK (.int 8)) mNil)) (tgN 5) (mSeq (mAsg 6 (mCall m_law_draw_want (mCons (mVar 0) (mCons (mVar 4) mNil)))) (mSeq (mIfS (mOp (gIsB true) (mCall m_is_wish (mCons (mVar 1) (mCons (mVar 2) (mCons (mVar 6) mNil)))) (mK (.bl true))) (mRet (mK (.bl false))) mNop) (mSeq (mAsg 7 (mCall m_law_bend (mCons (mVar 0) (mCons (mVar 6) (mCons (mCall m_law_any_odd_v2 (mCons (mVar 0) mNil)) mNil))))) (mSeq (mFor (iSeq (mFz (mLst (mCons (mVar 7) (mCons (mCall m_law_any_odd_v2 (mCons (mVar 0) mNil)) (mCons (mTup (mCons (mVar 7) mNil)) (mCons (mOp gAdd (mTup (mCons (mOp gCatS (mOp gIx (mVar 6) (mK (.int 0))) (mK (.str " "))) mNil)) (mSlT (mVar 6) (mPart (mK (.int 1))) mNoPart)) mNil))))))) (tgN 8) (mIfS (mNot (mCall m_law_asked_v7 (mCons (mVar 1) (mCons (mVar 2) (mCons (mVar 3) (mCons (mVar 8) mNil)))))) (mRet (mK (.bl false))) mNop)) (mSeq (mIfS (mIsi .tup (mVar 7)) (mAsg 7 (mCall m_law_bend (mCons (mVar 0) (mCons (mVar 7) (mCons (mCall m_law_any_odd_v2 (mCons (mVar 0) mNil)) mNil))))) mNop) (mIfS (mNot (mCall m_law_asked_v7 (mCons (mVar 1) (mCons (mVar 2) (mCons (mVar 3) (mCons (mVar 7) mNil)))))) (mRet (mK (.bl false))) mNop))))))) (mSeq (mFor (iRange2 (mCons (mK (.int (-1))) (mCons (mOp gAdd (mCallB gLen (mCons (mVar 3) mNil)) (mK (.int 2))) mNil))) (tgN 9) (mFor (iSeq (mFz (mLst (mCons (mTup (mCons (mK (.str "same")) (mCons (mVar 9) (mCons (mK (.int 0)) mNil)))) (mCons (mTup (mCons (mK (.str "order")) (mCons (mK (.int 0)) (mCons (mVar 9) mNil)))) (mCons (mTup (mCons (mK (.str "near")) (mCons (mVar 9) (mCons (mK (.int 0)) (mCons (mOp gAdd (mVar 9) (mK (.int 1))) mNil))))) (mCons (mTup (mCons (mK (.str "near")) (mCons (mK (.int 0)) (mCons (mVar 9) (mCons (mK (.int 1000000)) mNil))))) mNil))))))) (tgN 6) (mIfS (mNot (mCall m_law_asked_v7 (mCons (mVar 1) (mCons (mVar 2) (mCons (mVar 3) (mCons (mVar 6) mNil)))))) (mRet (mK (.bl false))) mNop))) (mSeq (mFor (iSeq (mFz (mLst (mCons (mK (.int 0)) (mCons (mK (.int 1000000)) (mCons (mK (.int 1000001)) (mCons (mK (.int (-1))) (mCons (mK (.bl true)) (mCons (mK (.str "0")) (mCons (mK .non) mNil)))))))))) (tgN 10) (mIfS (mNot (mCall m_law_asked_v7 (mCons (mVar 1) (mCons (mVar 2) (mCons (mVar 3) (mCons (mTup (mCons (mK (.str "near")) (mCons (mK (.int 0)) (mCons (mK (.int 0)) (mCons (mVar 10) mNil))))) mNil)))))) (mRet (mK (.bl false))) mNop)) (mRet (mK (.bl true)))))))))
noncomputable def m_law_k37_wishes_about_a_program_v2 : List D → Sto → Res D := mDef 1 2 (mSeq (mForA (mCall m_law_cells (mCons (mVar 0) (mCons (mK (.int 5)) mNil))) (tgN 1) (mIfS (mNot (mCall m_law_right_v31 (mCons (mCall m_law_make_pot_v2 (mCons (mVar 1) mNil)) mNil))) (mRet (mK (.bl false))) mNop)) (mRet (mK (.bl true))))
end
end Dm
end
namespace V
open PySem L2 PySem.Spec PyProof.Rows Dm
open PySem.W (Frag)
theorem rvR {a : Addr} : L2.RelV (.ref a) (.ref a) := rfl
theorem rvS {x : Str} {t : Tok} : L2.RelV (.str x) (.str x t) := ⟨t, rfl⟩
def top (i : Nat) : Stmt := PySem.Challenge.pw_hoursmeant_k37_wishes_about_a_program.main.body.getD i (.Pass ⟨0, 0, 0, 0⟩)
theorem kit_plain {K : PySem.W.Frag} {D : Addr} {x : String} (hx : PySem.W.kitMeta x = true) (h : PySem.W.mroIn K D (.type x) = some false) : PySem.W.kitOne K (.ref D) (.type x) = some false := by
  unfold PySem.W.kitOne PySem.W.kitCls
  have e : ((Value.ref D) == (Value.type x)) = false := rfl
  rw [e, if_neg Bool.false_ne_true]
  simp only
  rw [if_pos hx]
  exact h
structure Txt (K : Frag) (mg : Str → Option Value) (w : World) : Prop where
  n_all : mg "all" = none
  n_bool : mg "bool" = none
  n_enumerate : mg "enumerate" = none
  n_int : mg "int" = none
  n_isinstance : mg "isinstance" = none
  n_len : mg "len" = none
  n_list : mg "list" = none
  n_max : mg "max" = none
  n_min : mg "min" = none
  n_range : mg "range" = none
  n_repr : mg "repr" = none
  n_str : mg "str" = none
  n_tuple : mg "tuple" = none
  v_FOLDS : GlK K mg "FOLDS" (.tup [(.str "early"), (.str "late"), (.str "refuse")])
  v_GAPS : GlK K mg "GAPS" (.tup [(.str "ahead"), (.str "behind"), (.str "refuse")])
  v_MADE : GlT K w mg "MADE" [("read", (.str "reading")), ("find", (.str "moment")), ("offset", (.str "span")), ("edition", (.str "moment")), ("plus", (.str "reading")), ("less", (.str "moment"))]
  v_MOST_APART : ∃ t, mg "MOST_APART" = some (.int (1000000) t)
  v_MOST_MINUTES : ∃ t, mg "MOST_MINUTES" = some (.int (100000) t)
  v_MOST_OFFSET : ∃ t, mg "MOST_OFFSET" = some (.int (900) t)
  v_MOST_SPACING : ∃ t, mg "MOST_SPACING" = some (.int (1000000) t)
  v_MOST_STEPS : ∃ t, mg "MOST_STEPS" = some (.int (8) t)
  v_PARTS : GlT K w mg "PARTS" [("read", (.tup [(.str "moment"), (.str "place")])), ("find", (.tup [(.str "reading"), (.str "place"), (.str "fold"), (.str "gap")])), ("offset", (.tup [(.str "moment"), (.str "place")])), ("edition", (.tup [(.str "moment"), (.str "place")])), ("plus", (.tup [(.str "moment"), (.str "span")])), ("less", (.tup [(.str "reading"), (.str "span")])), ("add", (.tup [(.str "point"), (.str "minutes")]))]
  v_WISH_SLOTS : GlT K w mg "WISH_SLOTS" [("found", (.tup [])), ("same", (.tup [(.str "point"), (.str "point")])), ("order", (.tup [(.str "point"), (.str "point")])), ("near", (.tup [(.str "point"), (.str "point"), (.str "most")]))]
  x_HourError : XcOk K mg "HourError"
  x_InvalidProgram : XcOk K mg "InvalidProgram"
  x_InvalidZones : XcOk K mg "InvalidZones"
  p__HourError : PlOk K mg ["HourError"]
  p__Refused : PlOk K mg ["Refused"]
  r_repr : RpOk K mg ["HourError", "Refused"]
section
variable {P : Program} {w : World} {K : Frag} {mg : Str → Option Value} {base : Heap}
theorem Txt.c_FOLDS (T : Txt K mg w) {X : Cx} (hK : X.K = K := by rfl) (h : X.mg = mg := by rfl) : GlD X "FOLDS" (.tup [(.str "early"), (.str "late"), (.str "refuse")]) := T.v_FOLDS.glD hK h
theorem Txt.c_GAPS (T : Txt K mg w) {X : Cx} (hK : X.K = K := by rfl) (h : X.mg = mg := by rfl) : GlD X "GAPS" (.tup [(.str "ahead"), (.str "behind"), (.str "refuse")]) := T.v_GAPS.glD hK h
theorem Txt.c_MADE (T : Txt K mg w) {X : Cx} (hK : X.K = K := by rfl) (h : X.mg = mg := by rfl) (hw : X.w = w := by rfl) : GlT X.K X.w X.mg "MADE" [("read", (.str "reading")), ("find", (.str "moment")), ("offset", (.str "span")), ("edition", (.str "moment")), ("plus", (.str "reading")), ("less", (.str "moment"))] := by
  rw [hK, h, hw]
  exact T.v_MADE
theorem Txt.c_MOST_APART (T : Txt K mg w) {X : Cx} (h : X.mg = mg := by rfl) : GlD X "MOST_APART" (.int 1000000) := by
  obtain ⟨t, e⟩ := T.v_MOST_APART
  exact ⟨_, .int _, by rw [h]; exact e, ⟨t, rfl⟩, fun _ _ _ => .int _⟩
theorem Txt.c_MOST_MINUTES (T : Txt K mg w) {X : Cx} (h : X.mg = mg := by rfl) : GlD X "MOST_MINUTES" (.int 100000) := by
  obtain ⟨t, e⟩ := T.v_MOST_MINUTES
  exact ⟨_, .int _, by rw [h]; exact e, ⟨t, rfl⟩, fun _ _ _ => .int _⟩
theorem Txt.c_MOST_OFFSET (T : Txt K mg w) {X : Cx} (h : X.mg = mg := by rfl) : GlD X "MOST_OFFSET" (.int 900) := by
  obtain ⟨t, e⟩ := T.v_MOST_OFFSET
  exact ⟨_, .int _, by rw [h]; exact e, ⟨t, rfl⟩, fun _ _ _ => .int _⟩
theorem Txt.c_MOST_SPACING (T : Txt K mg w) {X : Cx} (h : X.mg = mg := by rfl) : GlD X "MOST_SPACING" (.int 1000000) := by
  obtain ⟨t, e⟩ := T.v_MOST_SPACING
  exact ⟨_, .int _, by rw [h]; exact e, ⟨t, rfl⟩, fun _ _ _ => .int _⟩
theorem Txt.c_MOST_STEPS (T : Txt K mg w) {X : Cx} (h : X.mg = mg := by rfl) : GlD X "MOST_STEPS" (.int 8) := by
  obtain ⟨t, e⟩ := T.v_MOST_STEPS
  exact ⟨_, .int _, by rw [h]; exact e, ⟨t, rfl⟩, fun _ _ _ => .int _⟩
theorem Txt.c_PARTS (T : Txt K mg w) {X : Cx} (hK : X.K = K := by rfl) (h : X.mg = mg := by rfl) (hw : X.w = w := by rfl) : GlT X.K X.w X.mg "PARTS" [("read", (.tup [(.str "moment"), (.str "place")])), ("find", (.tup [(.str "reading"), (.str "place"), (.str "fold"), (.str "gap")])), ("offset", (.tup [(.str "moment"), (.str "place")])), ("edition", (.tup [(.str "moment"), (.str "place")])), ("plus", (.tup [(.str "moment"), (.str "span")])), ("less", (.tup [(.str "reading"), (.str "span")])), ("add", (.tup [(.str "point"), (.str "minutes")]))] := by
  rw [hK, h, hw]
  exact T.v_PARTS
theorem Txt.c_WISH_SLOTS (T : Txt K mg w) {X : Cx} (hK : X.K = K := by rfl) (h : X.mg = mg := by rfl) (hw : X.w = w := by rfl) : GlT X.K X.w X.mg "WISH_SLOTS" [("found", (.tup [])), ("same", (.tup [(.str "point"), (.str "point")])), ("order", (.tup [(.str "point"), (.str "point")])), ("near", (.tup [(.str "point"), (.str "point"), (.str "most")]))] := by
  rw [hK, h, hw]
  exact T.v_WISH_SLOTS
abbrev s_is_integer : Stmt := top 10
theorem sc_is_integer : FnScope ["value"] ["value"] (defScope s_is_integer) := ⟨rfl, rfl, rfl, by decide +kernel, rfl, by decide +kernel, by decide +kernel⟩
theorem fn_is_integer (T : Txt K mg w) {f : Addr} {fd : FuncData} (hm : mg "is_integer" = some (.ref f)) (F : Fun K "is_integer" "is_integer" s_is_integer f fd) : FnDG P w K mg base 1 "is_integer" s_is_integer ["value"] m_is_integer := by
  refine fnd_mkG (np := 1) (nN := 1) (k := 0) hm F (F.binds fun _ _ _ _ _ _ us hl => match us, hl with | [_], _ => rfl) sc_is_integer rfl rfl fun cdv A outer s H E hr => ?_
  have tk : Takes (cxOf (L2.CX P w) P w K mg base ["value"] "is_integer" (defScope s_is_integer) f cdv A outer s H E) (fun cls d _ H => E cls d H) := takes_of rfl rfl rfl rfl
  exact (dss_one (ds_ret (d_and (d_isi .int (d_var 0) T.n_isinstance T.n_int) (d_one (d_not (d_isi .bl (d_var 0) T.n_isinstance T.n_bool))))))
abbrev s_is_zone : Stmt := top 11
theorem sc_is_zone : FnScope ["value", "offsets", "spacing", "offset", "k"] ["value"] (defScope s_is_zone) := ⟨rfl, rfl, rfl, by decide +kernel, rfl, by decide +kernel, by decide +kernel⟩
theorem fn_is_zone (T : Txt K mg w) {f : Addr} {fd : FuncData} (hm : mg "is_zone" = some (.ref f)) (F : Fun K "is_zone" "is_zone" s_is_zone f fd) (G_is_integer : FnDG P w K mg base 1 "is_integer" s_is_integer ["value"] m_is_integer) : FnDG P w K mg base 2 "is_zone" s_is_zone ["value"] m_is_zone := by
  refine fnd_mkG (np := 1) (nN := 5) (k := 1) hm F (F.binds fun _ _ _ _ _ _ us hl => match us, hl with | [_], _ => rfl) sc_is_zone rfl rfl fun cdv A outer s H E hr => ?_
  have tk : Takes (cxOf (L2.CX P w) P w K mg base ["value", "offsets", "spacing", "offset", "k"] "is_zone" (defScope s_is_zone) f cdv A outer s H E) (fun cls d _ H => E cls d H) := takes_of rfl rfl rfl rfl
  exact (dss_cons (ds_if (DT.w (dw_or (dt_not (dt_val (d_isi .tup (d_var 0) T.n_isinstance T.n_tuple))) (dw_or1 (dt_cmp (op_neA hr.units) o_ne (d_callB call_len c_len T.n_len (da_cons (d_var 0) da_nil)) d_int)))) (dss_one (ds_ret d_bl)) dss_nil) (dss_cons (ds_asg (d_var 0) (dg_tup rfl (dgs_cons (dg_name 1 sc_is_zone.nd) (dgs_cons (dg_name 2 sc_is_zone.nd) dgs_nil)))) (dss_cons (ds_if (DT.w (dw_or (dt_not (dt_val (d_isi .tup (d_var 1) T.n_isinstance T.n_tuple))) (dw_or1 (dt_not (dt_chain op_le op_le o_le o_le d_int (d_callB call_len c_len T.n_len (da_cons (d_var 1) da_nil)) d_int))))) (dss_one (ds_ret d_bl)) dss_nil) (dss_cons (ds_for (passes_of rfl) rfl (di_seq (d_var 1)) (dg_name 3 sc_is_zone.nd) (dss_one (ds_if (DT.w (dw_or (dt_not (dt_val (d_callG G_is_integer hr tk (da_cons (d_var 3) da_nil)))) (dw_or1 (dt_not (dt_chain op_le op_le o_le o_le (d_un un_neg o_neg (d_glob rfl (T.c_MOST_OFFSET))) (d_var 3) (d_glob rfl (T.c_MOST_OFFSET))))))) (dss_one (ds_ret d_bl)) dss_nil))) (dss_cons (ds_for (passes_of rfl) rfl (di_range2 (da_cons d_int (da_cons (d_callB call_len c_len T.n_len (da_cons (d_var 1) da_nil)) da_nil)) T.n_range) (dg_name 4 sc_is_zone.nd) (dss_one (ds_if (dt_cmp op_le o_le (d_ix ix_seq o_ix (d_var 1) (d_var 4)) (d_ix ix_seq o_ix (d_var 1) (d_op op_sub o_sub (d_var 4) d_int))) (dss_one (ds_ret d_bl)) dss_nil))) (dss_one (ds_ret (d_and (d_callG G_is_integer hr tk (da_cons (d_var 2) da_nil)) (d_one (d_chain op_lt op_le o_lt o_le (d_op op_sub o_sub (d_ix ix_seq o_ix (d_var 1) (d_fold (d := .int (-1)) (d_un un_neg o_neg d_int) (fun _ _ => rfl))) (d_ix ix_seq o_ix (d_var 1) d_int)) (d_var 2) (d_glob rfl (T.c_MOST_SPACING))))))))))))
abbrev s_is_zones : Stmt := top 12
theorem sc_is_zones : FnScope ["value", "zone"] ["value"] (defScope s_is_zones) := ⟨rfl, rfl, rfl, by decide +kernel, rfl, by decide +kernel, by decide +kernel⟩
theorem fn_is_zones (T : Txt K mg w) {f : Addr} {fd : FuncData} (hm : mg "is_zones" = some (.ref f)) (F : Fun K "is_zones" "is_zones" s_is_zones f fd) (G_is_zone : FnDG P w K mg base 2 "is_zone" s_is_zone ["value"] m_is_zone) : FnDG P w K mg base 3 "is_zones" s_is_zones ["value"] m_is_zones := by
  refine fnd_mkG (np := 1) (nN := 2) (k := 2) hm F (F.binds fun _ _ _ _ _ _ us hl => match us, hl with | [_], _ => rfl) sc_is_zones rfl rfl fun cdv A outer s H E hr => ?_
  have tk : Takes (cxOf (L2.CX P w) P w K mg base ["value", "zone"] "is_zones" (defScope s_is_zones) f cdv A outer s H E) (fun cls d _ H => E cls d H) := takes_of rfl rfl rfl rfl
  exact (dss_cons (ds_if (DT.w (dw_or (dt_not (dt_val (d_isi .tup (d_var 0) T.n_isinstance T.n_tuple))) (dw_or1 (dt_not (dt_chain op_le op_le o_le o_le d_int (d_callB call_len c_len T.n_len (da_cons (d_var 0) da_nil)) d_int))))) (dss_one (ds_ret d_bl)) dss_nil) (dss_one (ds_ret (d_callB (cr_all rfl) c_all T.n_all (da_cons (d_fz (dl_lcA (own := [("zone", 1)]) rfl sc_is_zones.nd (d_var 0) (blkOk_by (own := [("zone", 1)]) (N := ["value", "zone"]) (sc := defScope s_is_zones) (by decide +kernel)) (fun _ _ _ _ _ => (dg_name 1 sc_is_zones.nd)) (fun _ _ _ _ _ => dts_nil) (fun _ _ _ _ _ => (d_callG G_is_zone hr takes0 (da_cons (d_var 1) da_nil))))) da_nil)))))
abbrev s_need_zones : Stmt := top 13
theorem sc_need_zones : FnScope ["zones"] ["zones"] (defScope s_need_zones) := ⟨rfl, rfl, rfl, by decide +kernel, rfl, by decide +kernel, by decide +kernel⟩
theorem fn_need_zones (T : Txt K mg w) {f : Addr} {fd : FuncData} (hm : mg "need_zones" = some (.ref f)) (F : Fun K "need_zones" "need_zones" s_need_zones f fd) (G_is_zones : FnDG P w K mg base 3 "is_zones" s_is_zones ["value"] m_is_zones) : FnDG P w K mg base 4 "need_zones" s_need_zones ["zones"] m_need_zones := by
  refine fnd_mkG (np := 1) (nN := 1) (k := 3) hm F (F.binds fun _ _ _ _ _ _ us hl => match us, hl with | [_], _ => rfl) sc_need_zones rfl rfl fun cdv A outer s H E hr => ?_
  have tk : Takes (cxOf (L2.CX P w) P w K mg base ["zones"] "need_zones" (defScope s_need_zones) f cdv A outer s H E) (fun cls d _ H => E cls d H) := takes_of rfl rfl rfl rfl
  exact (dss_one (ds_if (dt_not (dt_val (d_callG G_is_zones hr tk (da_cons (d_var 0) da_nil)))) (dss_one (ds_raise T.x_InvalidZones rfl tk)) dss_nil))
abbrev s_is_part : Stmt := top 19
theorem sc_is_part : FnScope ["zones", "before", "part", "value"] ["zones", "before", "part", "value"] (defScope s_is_part) := ⟨rfl, rfl, rfl, by decide +kernel, rfl, by decide +kernel, by decide +kernel⟩
theorem fn_is_part (T : Txt K mg w) {f : Addr} {fd : FuncData} (hm : mg "is_part" = some (.ref f)) (F : Fun K "is_part" "is_part" s_is_part f fd) (G_is_integer : FnDG P w K mg base 1 "is_integer" s_is_integer ["value"] m_is_integer) : FnDG P w K mg base 2 "is_part" s_is_part ["zones", "before", "part", "value"] m_is_part := by
  refine fnd_mkG (np := 4) (nN := 4) (k := 1) hm F (F.binds fun _ _ _ _ _ _ us hl => match us, hl with | [_, _, _, _], _ => rfl) sc_is_part rfl rfl fun cdv A outer s H E hr => ?_
  have tk : Takes (cxOf (L2.CX P w) P w K mg base ["zones", "before", "part", "value"] "is_part" (defScope s_is_part) f cdv A outer s H E) (fun cls d _ H => E cls d H) := takes_of rfl rfl rfl rfl
  exact (dss_cons (ds_if (dt_cmp (op_eqA hr.units) o_eq (d_var 2) d_str) (dss_one (ds_ret (d_and (d_isi .str (d_var 3) T.n_isinstance T.n_str) (d_one (d_cmp op_in_seq o_in (d_var 3) (d_glob rfl (T.c_FOLDS)) (by rfl)))))) dss_nil) (dss_cons (ds_if (dt_cmp (op_eqA hr.units) o_eq (d_var 2) d_str) (dss_one (ds_ret (d_and (d_isi .str (d_var 3) T.n_isinstance T.n_str) (d_one (d_cmp op_in_seq o_in (d_var 3) (d_glob rfl (T.c_GAPS)) (by rfl)))))) dss_nil) (dss_cons (ds_if (dt_not (dt_val (d_callG G_is_integer hr tk (da_cons (d_var 3) da_nil)))) (dss_one (ds_ret d_bl)) dss_nil) (dss_cons (ds_if (dt_cmp (op_eqA hr.units) o_eq (d_var 2) d_str) (dss_one (ds_ret (d_chain op_le op_lt o_le o_lt d_int (d_var 3) (d_callB call_len c_len T.n_len (da_cons (d_var 0) da_nil))))) dss_nil) (dss_cons (ds_if (dt_cmp (op_eqA hr.units) o_eq (d_var 2) d_str) (dss_one (ds_ret (d_chain op_le op_le o_le o_le (d_un un_neg o_neg (d_glob rfl (T.c_MOST_MINUTES))) (d_var 3) (d_glob rfl (T.c_MOST_MINUTES))))) dss_nil) (dss_cons (ds_if (dt_not (dt_chain op_le op_lt o_le o_lt d_int (d_var 3) (d_callB call_len c_len T.n_len (da_cons (d_var 1) da_nil)))) (dss_one (ds_ret d_bl)) dss_nil) (dss_cons (ds_if (dt_cmp (op_eqA hr.units) o_eq (d_var 2) d_str) (dss_one (ds_ret (d_cmp (op_neA hr.units) o_ne (d_ix ix_seq o_ix (d_var 1) (d_var 3)) d_str))) dss_nil) (dss_one (ds_ret (d_cmp (op_eqA hr.units) o_eq (d_ix ix_seq o_ix (d_var 1) (d_var 3)) (d_var 2)))))))))))
abbrev s_is_step : Stmt := top 20
theorem sc_is_step : FnScope ["zones", "before", "value", "parts", "k", "part"] ["zones", "before", "value"] (defScope s_is_step) := ⟨rfl, rfl, rfl, by decide +kernel, rfl, by decide +kernel, by decide +kernel⟩
theorem fn_is_step (T : Txt K mg w) {f : Addr} {fd : FuncData} (hm : mg "is_step" = some (.ref f)) (F : Fun K "is_step" "is_step" s_is_step f fd) (G_is_part : FnDG P w K mg base 2 "is_part" s_is_part ["zones", "before", "part", "value"] m_is_part) : FnDG P w K mg base 3 "is_step" s_is_step ["zones", "before", "value"] m_is_step := by
  refine fnd_mkG (np := 3) (nN := 6) (k := 2) hm F (F.binds fun _ _ _ _ _ _ us hl => match us, hl with | [_, _, _], _ => rfl) sc_is_step rfl rfl fun cdv A outer s H E hr => ?_
  have tk : Takes (cxOf (L2.CX P w) P w K mg base ["zones", "before", "value", "parts", "k", "part"] "is_step" (defScope s_is_step) f cdv A outer s H E) (fun cls d _ H => E cls d H) := takes_of rfl rfl rfl rfl
  exact (dss_cons (ds_if (DT.w (dw_or (dt_not (dt_val (d_isi .tup (d_var 2) T.n_isinstance T.n_tuple))) (dw_or1 (dt_cmp (op_eqA hr.units) o_eq (d_callB call_len c_len T.n_len (da_cons (d_var 2) da_nil)) d_int)))) (dss_one (ds_ret d_bl)) dss_nil) (dss_cons (ds_if (DT.w (dw_or (dt_not (dt_val (d_isi .str (d_ix ix_seq o_ix (d_var 2) d_int) T.n_isinstance T.n_str))) (dw_or1 (dt_tbnot rfl (T.c_PARTS) (d_ix ix_seq o_ix (d_var 2) d_int))))) (dss_one (ds_ret d_bl)) dss_nil) (dss_cons (ds_set 3 sc_is_step.nd (d_tbix (by rfl) (T.c_PARTS) (d_ix ix_seq o_ix (d_var 2) d_int))) (dss_cons (ds_if (dt_cmp (op_neA hr.units) o_ne (d_callB call_len c_len T.n_len (da_cons (d_var 2) da_nil)) (d_op op_addD o_add (d_callB call_len c_len T.n_len (da_cons (d_var 3) da_nil)) d_int)) (dss_one (ds_ret d_bl)) dss_nil) (dss_one (ds_ret (d_callB (cr_all rfl) c_all T.n_all (da_cons (d_fz (dl_lc (own := [("k", 4), ("part", 5)]) rfl sc_is_step.nd (di_enum (d_var 3) T.n_enumerate) (blkOk_by (own := [("k", 4), ("part", 5)]) (N := ["zones", "before", "value", "parts", "k", "part"]) (sc := defScope s_is_step) (by decide +kernel)) (fun _ _ _ _ _ => (dg_any rfl (dgs_cons (dg_name 4 sc_is_step.nd) (dgs_cons (dg_name 5 sc_is_step.nd) dgs_nil)))) (fun _ _ _ _ _ => dts_nil) (fun _ _ _ _ _ => (d_callG G_is_part hr takes0 (da_cons (d_var 0) (da_cons (d_var 1) (da_cons (d_var 5) (da_cons (d_ix ix_seq o_ix (d_var 2) (d_op op_addD o_add (d_var 4) d_int)) da_nil)))))))) da_nil))))))))
abbrev s_kind_made : Stmt := top 21
theorem sc_kind_made : FnScope ["before", "step"] ["before", "step"] (defScope s_kind_made) := ⟨rfl, rfl, rfl, by decide +kernel, rfl, by decide +kernel, by decide +kernel⟩
theorem fn_kind_made (T : Txt K mg w) {f : Addr} {fd : FuncData} (hm : mg "kind_made" = some (.ref f)) (F : Fun K "kind_made" "kind_made" s_kind_made f fd) : FnDG P w K mg base 1 "kind_made" s_kind_made ["before", "step"] m_kind_made := by
  refine fnd_mkG (np := 2) (nN := 2) (k := 0) hm F (F.binds fun _ _ _ _ _ _ us hl => match us, hl with | [_, _], _ => rfl) sc_kind_made rfl rfl fun cdv A outer s H E hr => ?_
  have tk : Takes (cxOf (L2.CX P w) P w K mg base ["before", "step"] "kind_made" (defScope s_kind_made) f cdv A outer s H E) (fun cls d _ H => E cls d H) := takes_of rfl rfl rfl rfl
  exact (dss_cons (ds_if (dt_cmp (op_eqA hr.units) o_eq (d_ix ix_seq o_ix (d_var 1) d_int) d_str) (dss_one (ds_ret (d_ix ix_seq o_ix (d_var 0) (d_ix ix_seq o_ix (d_var 1) d_int)))) dss_nil) (dss_one (ds_ret (d_tbix (by rfl) (T.c_MADE) (d_ix ix_seq o_ix (d_var 1) d_int)))))
abbrev s_kinds_of : Stmt := top 22
theorem sc_kinds_of : FnScope ["program", "made", "step"] ["program"] (defScope s_kinds_of) := ⟨rfl, rfl, rfl, by decide +kernel, rfl, by decide +kernel, by decide +kernel⟩
theorem fn_kinds_of (T : Txt K mg w) {f : Addr} {fd : FuncData} (hm : mg "kinds_of" = some (.ref f)) (F : Fun K "kinds_of" "kinds_of" s_kinds_of f fd) (G_kind_made : FnDG P w K mg base 1 "kind_made" s_kind_made ["before", "step"] m_kind_made) : FnDG P w K mg base 2 "kinds_of" s_kinds_of ["program"] m_kinds_of := by
  refine fnd_mkG (np := 1) (nN := 3) (k := 1) hm F (F.binds fun _ _ _ _ _ _ us hl => match us, hl with | [_], _ => rfl) sc_kinds_of rfl rfl fun cdv A outer s H E hr => ?_
  have tk : Takes (cxOf (L2.CX P w) P w K mg base ["program", "made", "step"] "kinds_of" (defScope s_kinds_of) f cdv A outer s H E) (fun cls d _ H => E cls d H) := takes_of rfl rfl rfl rfl
  exact (dss_cons (ds_set 1 sc_kinds_of.nd (d_new (dl_lst (da_cons d_str da_nil)))) (dss_cons (ds_forA (passes_of rfl) rfl (d_var 0) (dg_name 2 sc_kinds_of.nd) (dss_one (ds_app (d_var 1) (d_callG G_kind_made hr tk (da_cons (d_var 1) (da_cons (d_var 2) da_nil))) (fun a b => ps_expr (pe_bm PySem.F.plainAttrs_list PySem.F.slot_list_append PySem.F.type_list_append mt_append a (pa_cons b pa_nil)))))) (dss_one (ds_ret (d_var 1)))))
abbrev s_is_program : Stmt := top 23
theorem sc_is_program : FnScope ["zones", "value", "before", "step"] ["zones", "value"] (defScope s_is_program) := ⟨rfl, rfl, rfl, by decide +kernel, rfl, by decide +kernel, by decide +kernel⟩
theorem fn_is_program (T : Txt K mg w) {f : Addr} {fd : FuncData} (hm : mg "is_program" = some (.ref f)) (F : Fun K "is_program" "is_program" s_is_program f fd) (G_kind_made : FnDG P w K mg base 1 "kind_made" s_kind_made ["before", "step"] m_kind_made) (G_is_step : FnDG P w K mg base 3 "is_step" s_is_step ["zones", "before", "value"] m_is_step) (G_need_zones : FnDG P w K mg base 4 "need_zones" s_need_zones ["zones"] m_need_zones) : FnDG P w K mg base 5 "is_program" s_is_program ["zones", "value"] m_is_program := by
  refine fnd_mkG (np := 2) (nN := 4) (k := 4) hm F (F.binds fun _ _ _ _ _ _ us hl => match us, hl with | [_, _], _ => rfl) sc_is_program rfl rfl fun cdv A outer s H E hr => ?_
  have tk : Takes (cxOf (L2.CX P w) P w K mg base ["zones", "value", "before", "step"] "is_program" (defScope s_is_program) f cdv A outer s H E) (fun cls d _ H => E cls d H) := takes_of rfl rfl rfl rfl
  exact (dss_cons (ds_expr (d_callG G_need_zones hr tk (da_cons (d_var 0) da_nil))) (dss_cons (ds_if (DT.w (dw_or (dt_not (dt_val (d_isi .tup (d_var 1) T.n_isinstance T.n_tuple))) (dw_or1 (dt_cmp op_gt o_gt (d_callB call_len c_len T.n_len (da_cons (d_var 1) da_nil)) (d_glob rfl (T.c_MOST_STEPS)))))) (dss_one (ds_ret d_bl)) dss_nil) (dss_cons (ds_set 2 sc_is_program.nd (d_new (dl_lst (da_cons d_str da_nil)))) (dss_cons (ds_forA (passes_of rfl) rfl (d_var 1) (dg_name 3 sc_is_program.nd) (dss_cons (ds_if (dt_not (dt_val (d_callG G_is_step hr tk (da_cons (d_var 0) (da_cons (d_var 2) (da_cons (d_var 3) da_nil)))))) (dss_one (ds_ret d_bl)) dss_nil) (dss_one (ds_app (d_var 2) (d_callG G_kind_made hr tk (da_cons (d_var 2) (da_cons (d_var 3) da_nil))) (fun a b => ps_expr (pe_bm PySem.F.plainAttrs_list PySem.F.slot_list_append PySem.F.type_list_append mt_append a (pa_cons b pa_nil))))))) (dss_one (ds_ret (d_cmp op_lt o_lt (d_callB call_len c_len T.n_len (da_cons (d_fz (dl_lcA (own := [("step", 3)]) rfl sc_is_program.nd (d_var 1) (blkOk_by (own := [("step", 3)]) (N := ["zones", "value", "before", "step"]) (sc := defScope s_is_program) (by decide +kernel)) (fun _ _ _ _ _ => (dg_name 3 sc_is_program.nd)) (fun _ _ _ _ _ => (dts_one (dt_cmp (op_eqA hr.units) o_eq (d_ix ix_seq o_ix (d_var 3) d_int) d_str))) (fun _ _ _ _ _ => (d_var 3)))) da_nil)) d_int)))))))
abbrev s_need_program : Stmt := top 24
theorem sc_need_program : FnScope ["zones", "program"] ["zones", "program"] (defScope s_need_program) := ⟨rfl, rfl, rfl, by decide +kernel, rfl, by decide +kernel, by decide +kernel⟩
theorem fn_need_program (T : Txt K mg w) {f : Addr} {fd : FuncData} (hm : mg "need_program" = some (.ref f)) (F : Fun K "need_program" "need_program" s_need_program f fd) (G_is_program : FnDG P w K mg base 5 "is_program" s_is_program ["zones", "value"] m_is_program) : FnDG P w K mg base 6 "need_program" s_need_program ["zones", "program"] m_need_program := by
  refine fnd_mkG (np := 2) (nN := 2) (k := 5) hm F (F.binds fun _ _ _ _ _ _ us hl => match us, hl with | [_, _], _ => rfl) sc_need_program rfl rfl fun cdv A outer s H E hr => ?_
  have tk : Takes (cxOf (L2.CX P w) P w K mg base ["zones", "program"] "need_program" (defScope s_need_program) f cdv A outer s H E) (fun cls d _ H => E cls d H) := takes_of rfl rfl rfl rfl
  exact (dss_one (ds_if (dt_not (dt_val (d_callG G_is_program hr tk (da_cons (d_var 0) (da_cons (d_var 1) da_nil))))) (dss_one (ds_raise T.x_InvalidProgram rfl tk)) dss_nil))
abbrev s_is_hour : Stmt := top 28
theorem sc_is_hour : FnScope ["known", "value"] ["known", "value"] (defScope s_is_hour) := ⟨rfl, rfl, rfl, by decide +kernel, rfl, by decide +kernel, by decide +kernel⟩
theorem fn_is_hour (T : Txt K mg w) {f : Addr} {fd : FuncData} (hm : mg "is_hour" = some (.ref f)) (F : Fun K "is_hour" "is_hour" s_is_hour f fd) (G_is_integer : FnDG P w K mg base 1 "is_integer" s_is_integer ["value"] m_is_integer) : FnDG P w K mg base 2 "is_hour" s_is_hour ["known", "value"] m_is_hour := by
  refine fnd_mkG (np := 2) (nN := 2) (k := 1) hm F (F.binds fun _ _ _ _ _ _ us hl => match us, hl with | [_, _], _ => rfl) sc_is_hour rfl rfl fun cdv A outer s H E hr => ?_
  have tk : Takes (cxOf (L2.CX P w) P w K mg base ["known", "value"] "is_hour" (defScope s_is_hour) f cdv A outer s H E) (fun cls d _ H => E cls d H) := takes_of rfl rfl rfl rfl
  exact (dss_one (ds_ret (d_and (d_callG G_is_integer hr tk (da_cons (d_var 1) da_nil)) (d_and (d_chain op_le op_lt o_le o_lt d_int (d_var 1) (d_callB call_len c_len T.n_len (da_cons (d_var 0) da_nil))) (d_one (d_cmp (op_neA hr.units) o_ne (d_ix ix_seq o_ix (d_var 0) (d_var 1)) d_str))))))
abbrev s_wish_fits : Stmt := top 29
theorem sc_wish_fits : FnScope ["program", "value", "known", "index"] ["program", "value"] (defScope s_wish_fits) := ⟨rfl, rfl, rfl, by decide +kernel, rfl, by decide +kernel, by decide +kernel⟩
theorem fn_wish_fits (T : Txt K mg w) {f : Addr} {fd : FuncData} (hm : mg "wish_fits" = some (.ref f)) (F : Fun K "wish_fits" "wish_fits" s_wish_fits f fd) (G_is_integer : FnDG P w K mg base 1 "is_integer" s_is_integer ["value"] m_is_integer) (G_is_hour : FnDG P w K mg base 2 "is_hour" s_is_hour ["known", "value"] m_is_hour) (G_kinds_of : FnDG P w K mg base 2 "kinds_of" s_kinds_of ["program"] m_kinds_of) : FnDG P w K mg base 3 "wish_fits" s_wish_fits ["program", "value"] m_wish_fits := by
  refine fnd_mkG (np := 2) (nN := 4) (k := 2) hm F (F.binds fun _ _ _ _ _ _ us hl => match us, hl with | [_, _], _ => rfl) sc_wish_fits rfl rfl fun cdv A outer s H E hr => ?_
  have tk : Takes (cxOf (L2.CX P w) P w K mg base ["program", "value", "known", "index"] "wish_fits" (defScope s_wish_fits) f cdv A outer s H E) (fun cls d _ H => E cls d H) := takes_of rfl rfl rfl rfl
  exact (dss_cons (ds_if (DT.w (dw_or (dt_not (dt_val (d_isi .tup (d_var 1) T.n_isinstance T.n_tuple))) (dw_or (dt_cmp (op_eqA hr.units) o_eq (d_callB call_len c_len T.n_len (da_cons (d_var 1) da_nil)) d_int) (dw_or1 (dt_not (dt_val (d_isi .str (d_ix ix_seq o_ix (d_var 1) d_int) T.n_isinstance T.n_str))))))) (dss_one (ds_ret d_bl)) dss_nil) (dss_cons (ds_if (DT.w (dw_or (dt_tbnot rfl (T.c_WISH_SLOTS) (d_ix ix_seq o_ix (d_var 1) d_int)) (dw_or1 (dt_cmp (op_neA hr.units) o_ne (d_callB call_len c_len T.n_len (da_cons (d_var 1) da_nil)) (d_op op_addD o_add (d_callB call_len c_len T.n_len (da_cons (d_tbix (by rfl) (T.c_WISH_SLOTS) (d_ix ix_seq o_ix (d_var 1) d_int)) da_nil)) d_int))))) (dss_one (ds_ret d_bl)) dss_nil) (dss_cons (ds_set 2 sc_wish_fits.nd (d_callG G_kinds_of hr tk (da_cons (d_var 0) da_nil))) (dss_cons (ds_if (dt_not (dt_val (d_callB (cr_all rfl) c_all T.n_all (da_cons (d_fz (dl_lcA (own := [("index", 3)]) rfl sc_wish_fits.nd (d_slT (d_var 1) (do_some d_int) (do_some d_int)) (blkOk_by (own := [("index", 3)]) (N := ["program", "value", "known", "index"]) (sc := defScope s_wish_fits) (by decide +kernel)) (fun _ _ _ _ _ => (dg_name 3 sc_wish_fits.nd)) (fun _ _ _ _ _ => dts_nil) (fun _ _ _ _ _ => (d_callG G_is_hour hr takes0 (da_cons (d_var 2) (da_cons (d_var 3) da_nil)))))) da_nil)))) (dss_one (ds_ret d_bl)) dss_nil) (dss_one (ds_ret (d_or (d_cmp op_lt o_lt (d_callB call_len c_len T.n_len (da_cons (d_var 1) da_nil)) d_int) (d_one (d_and (d_callG G_is_integer hr tk (da_cons (d_ix ix_seq o_ix (d_var 1) d_int) da_nil)) (d_one (d_chain op_le op_le o_le o_le d_int (d_ix ix_seq o_ix (d_var 1) d_int) (d_glob rfl (T.c_MOST_APART)))))))))))))
abbrev s_is_wish : Stmt := top 30
theorem sc_is_wish : FnScope ["zones", "program", "value"] ["zones", "program", "value"] (defScope s_is_wish) := ⟨rfl, rfl, rfl, by decide +kernel, rfl, by decide +kernel, by decide +kernel⟩
theorem fn_is_wish (T : Txt K mg w) {f : Addr} {fd : FuncData} (hm : mg "is_wish" = some (.ref f)) (F : Fun K "is_wish" "is_wish" s_is_wish f fd) (G_wish_fits : FnDG P w K mg base 3 "wish_fits" s_wish_fits ["program", "value"] m_wish_fits) (G_need_program : FnDG P w K mg base 6 "need_program" s_need_program ["zones", "program"] m_need_program) (G_need_zones : FnDG P w K mg base 4 "need_zones" s_need_zones ["zones"] m_need_zones) : FnDG P w K mg base 7 "is_wish" s_is_wish ["zones", "program", "value"] m_is_wish := by
  refine fnd_mkG (np := 3) (nN := 3) (k := 6) hm F (F.binds fun _ _ _ _ _ _ us hl => match us, hl with | [_, _, _], _ => rfl) sc_is_wish rfl rfl fun cdv A outer s H E hr => ?_
  have tk : Takes (cxOf (L2.CX P w) P w K mg base ["zones", "program", "value"] "is_wish" (defScope s_is_wish) f cdv A outer s H E) (fun cls d _ H => E cls d H) := takes_of rfl rfl rfl rfl
  exact (dss_cons (ds_expr (d_callG G_need_zones hr tk (da_cons (d_var 0) da_nil))) (dss_cons (ds_expr (d_callG G_need_program hr tk (da_cons (d_var 0) (da_cons (d_var 1) da_nil)))) (dss_one (ds_ret (d_callG G_wish_fits hr tk (da_cons (d_var 1) (da_cons (d_var 2) da_nil)))))))
abbrev s__law_make_pot : Stmt := top 32
theorem sc__law_make_pot : FnScope ["_law_cell", "_law_more"] ["_law_cell"] (defScope s__law_make_pot) := ⟨rfl, rfl, rfl, by decide +kernel, rfl, by decide +kernel, by decide +kernel⟩
theorem fn__law_make_pot (T : Txt K mg w) {f : Addr} {fd : FuncData} (hm : mg "_law_make_pot" = some (.ref f)) (F : Fun K "_law_make_pot" "_law_make_pot" s__law_make_pot f fd) : FnDG P w K mg base 1 "_law_make_pot" s__law_make_pot ["_law_cell"] m_law_make_pot_v2 := by
  refine fnd_mkG (np := 1) (nN := 2) (k := 0) hm F (F.binds fun _ _ _ _ _ _ us hl => match us, hl with | [_], _ => rfl) sc__law_make_pot rfl rfl fun cdv A outer s H E hr => ?_
  have tk : Takes (cxOf (L2.CX P w) P w K mg base ["_law_cell", "_law_more"] "_law_make_pot" (defScope s__law_make_pot) f cdv A outer s H E) (fun cls d _ H => E cls d H) := takes_of rfl rfl rfl rfl
  exact (dss_cons (ds_set 1 sc__law_make_pot.nd (d_ifExp (dt_cmp op_ge o_ge (d_var 0) (d_fold (d := .int 1000000000000000000) (d_op op_pow o_pow d_int d_int) (fun _ _ => rfl))) (d_op op_sub o_sub (d_var 0) (d_fold (d := .int 1000000000000000000) (d_op op_pow o_pow d_int d_int) (fun _ _ => rfl))) d_int)) (dss_one (ds_ret (d_new (dl_lst (da_cons (d_var 1) (da_cons (d_op op_mod o_mod (d_callTy call_int1 c_int1 T.n_int (da_cons (d_var 0) da_nil)) d_int) (da_cons d_int da_nil))))))))
abbrev s__law_pick : Stmt := top 33
theorem sc__law_pick : FnScope ["_law_pot", "_law_many", "_law_digit", "_law_turn", "_law_mixed"] ["_law_pot", "_law_many"] (defScope s__law_pick) := ⟨rfl, rfl, rfl, by decide +kernel, rfl, by decide +kernel, by decide +kernel⟩
theorem fn__law_pick (T : Txt K mg w) {f : Addr} {fd : FuncData} (hm : mg "_law_pick" = some (.ref f)) (F : Fun K "_law_pick" "_law_pick" s__law_pick f fd) : FnDG P w K mg base 1 "_law_pick" s__law_pick ["_law_pot", "_law_many"] m_law_pick_v2 := by
  refine fnd_mkG (np := 2) (nN := 5) (k := 0) hm F (F.binds fun _ _ _ _ _ _ us hl => match us, hl with | [_, _], _ => rfl) sc__law_pick rfl rfl fun cdv A outer s H E hr => ?_
  have tk : Takes (cxOf (L2.CX P w) P w K mg base ["_law_pot", "_law_many", "_law_digit", "_law_turn", "_law_mixed"] "_law_pick" (defScope s__law_pick) f cdv A outer s H E) (fun cls d _ H => E cls d H) := takes_of rfl rfl rfl rfl
  exact (dss_cons (ds_if (dt_cmp op_gt o_gt (d_ix ix_seq o_ix (d_var 0) d_int) d_int) (dss_cons (ds_set 2 sc__law_pick.nd (d_op op_mod o_mod (d_callTy call_int1 c_int1 T.n_int (da_cons (d_ix ix_seq o_ix (d_var 0) d_int) da_nil)) (d_var 1))) (dss_cons (ds_setIx (d_op op_fdivW o_fdiv (d_ix ix_seq o_ix (d_var 0) d_int) (d_var 1)) (d_var 0) d_int) (dss_one (ds_ret (d_var 2))))) dss_nil) (dss_cons (ds_setIx (d_op op_addD o_add (d_ix ix_seq o_ix (d_var 0) d_int) d_int) (d_var 0) d_int) (dss_cons (ds_set 3 sc__law_pick.nd (d_ix ix_seq o_ix (d_var 0) d_int)) (dss_cons (ds_set 4 sc__law_pick.nd (d_op op_addD o_add (d_op op_mulW o_mul (d_op op_addD o_add (d_ix ix_seq o_ix (d_var 0) d_int) d_int) (d_op op_addD o_add (d_op op_addD o_add (d_op op_mulW o_mul (d_op op_mulW o_mul d_int (d_var 3)) (d_var 3)) (d_op op_mulW o_mul d_int (d_var 3))) d_int)) (d_op op_mulW o_mul d_int (d_var 3)))) (dss_cons (ds_set 4 sc__law_pick.nd (d_op op_fdivW o_fdiv (d_op op_mod o_mod (d_callTy call_int1 c_int1 T.n_int (da_cons (d_op op_addD o_add (d_op op_mulW o_mul (d_var 4) (d_var 4)) (d_op op_mulW o_mul d_int (d_var 4))) da_nil)) d_int) d_int)) (dss_one (ds_ret (d_op op_mod o_mod (d_op op_fdivW o_fdiv (d_op op_mod o_mod (d_callTy call_int1 c_int1 T.n_int (da_cons (d_op op_addD o_add (d_op op_addD o_add (d_op op_mulW o_mul (d_var 4) (d_var 4)) (d_op op_mulW o_mul d_int (d_var 4))) (d_var 3)) da_nil)) d_int) d_int) (d_var 1)))))))))
abbrev s__law_cells : Stmt := top 34
theorem sc__law_cells : FnScope ["_law_script", "_law_many"] ["_law_script", "_law_many"] (defScope s__law_cells) := ⟨rfl, rfl, rfl, by decide +kernel, rfl, by decide +kernel, by decide +kernel⟩
theorem fn__law_cells (T : Txt K mg w) {f : Addr} {fd : FuncData} (hm : mg "_law_cells" = some (.ref f)) (F : Fun K "_law_cells" "_law_cells" s__law_cells f fd) : FnDG P w K mg base 1 "_law_cells" s__law_cells ["_law_script", "_law_many"] m_law_cells := by
  refine fnd_mkG (np := 2) (nN := 2) (k := 0) hm F (F.binds fun _ _ _ _ _ _ us hl => match us, hl with | [_, _], _ => rfl) sc__law_cells rfl rfl fun cdv A outer s H E hr => ?_
  have tk : Takes (cxOf (L2.CX P w) P w K mg base ["_law_script", "_law_many"] "_law_cells" (defScope s__law_cells) f cdv A outer s H E) (fun cls d _ H => E cls d H) := takes_of rfl rfl rfl rfl
  exact (dss_one (ds_ret (d_fz (dl_cat (dl_lst (da_cons d_int da_nil)) (dl_slL (d_var 0) do_none (do_some (d_var 1)))))))
abbrev s__law_whole : Stmt := top 35
theorem sc__law_whole : FnScope ["_law_thing"] ["_law_thing"] (defScope s__law_whole) := ⟨rfl, rfl, rfl, by decide +kernel, rfl, by decide +kernel, by decide +kernel⟩
theorem fn__law_whole (T : Txt K mg w) {f : Addr} {fd : FuncData} (hm : mg "_law_whole" = some (.ref f)) (F : Fun K "_law_whole" "_law_whole" s__law_whole f fd) : FnDG P w K mg base 1 "_law_whole" s__law_whole ["_law_thing"] m_law_whole := by
  refine fnd_mkG (np := 1) (nN := 1) (k := 0) hm F (F.binds fun _ _ _ _ _ _ us hl => match us, hl with | [_], _ => rfl) sc__law_whole rfl rfl fun cdv A outer s H E hr => ?_
  have tk : Takes (cxOf (L2.CX P w) P w K mg base ["_law_thing"] "_law_whole" (defScope s__law_whole) f cdv A outer s H E) (fun cls d _ H => E cls d H) := takes_of rfl rfl rfl rfl
  exact (dss_one (ds_ret (d_and (d_isi .int (d_var 0) T.n_isinstance T.n_int) (d_one (d_not (d_isi .bl (d_var 0) T.n_isinstance T.n_bool))))))
abbrev s__law_draw_spot : Stmt := top 36
theorem sc__law_draw_spot : FnScope ["_law_pot", "_law_sorts", "_law_wanted", "_law_spots", "_law_k"] ["_law_pot", "_law_sorts", "_law_wanted"] (defScope s__law_draw_spot) := ⟨rfl, rfl, rfl, by decide +kernel, rfl, by decide +kernel, by decide +kernel⟩
theorem fn__law_draw_spot (T : Txt K mg w) {f : Addr} {fd : FuncData} (hm : mg "_law_draw_spot" = some (.ref f)) (F : Fun K "_law_draw_spot" "_law_draw_spot" s__law_draw_spot f fd) (G__law_pick : FnDG P w K mg base 1 "_law_pick" s__law_pick ["_law_pot", "_law_many"] m_law_pick_v2) : FnDG P w K mg base 2 "_law_draw_spot" s__law_draw_spot ["_law_pot", "_law_sorts", "_law_wanted"] m_law_draw_spot := by
  refine fnd_mkG (np := 3) (nN := 5) (k := 1) hm F (F.binds fun _ _ _ _ _ _ us hl => match us, hl with | [_, _, _], _ => rfl) sc__law_draw_spot rfl rfl fun cdv A outer s H E hr => ?_
  have tk : Takes (cxOf (L2.CX P w) P w K mg base ["_law_pot", "_law_sorts", "_law_wanted", "_law_spots", "_law_k"] "_law_draw_spot" (defScope s__law_draw_spot) f cdv A outer s H E) (fun cls d _ H => E cls d H) := takes_of rfl rfl rfl rfl
  exact (dss_cons (ds_setLc (mw := mFz) 3 (own := [("_law_k", 4)]) (rd_fz) rfl sc__law_draw_spot.nd (di_range1 (da_cons (d_callB call_len c_len T.n_len (da_cons (d_var 1) da_nil)) da_nil) T.n_range) (blkOk_by (own := [("_law_k", 4)]) (N := ["_law_pot", "_law_sorts", "_law_wanted", "_law_spots", "_law_k"]) (sc := defScope s__law_draw_spot) (by decide +kernel)) (fun _ _ _ _ _ => (dg_name 4 sc__law_draw_spot.nd)) (fun _ _ _ _ _ => (dts_one (dt_cmp op_in_seq o_in (d_ix ix_seq o_ix (d_var 1) (d_var 4)) (d_var 2) (by rfl)))) (fun _ _ _ _ _ => (d_var 4))) (dss_one (ds_ret (d_ix ix_seq o_ix (d_fz (dl_lst (da_cons (d_ix ix_seq o_ix (d_var 3) (d_fold (d := .int (-1)) (d_un un_neg o_neg d_int) (fun _ _ => rfl))) (da_cons (d_ix ix_seq o_ix (d_var 3) (d_callG G__law_pick hr tk (da_cons (d_var 0) (da_cons (d_callB call_len c_len T.n_len (da_cons (d_var 3) da_nil)) da_nil)))) da_nil)))) (d_callG G__law_pick hr tk (da_cons (d_var 0) (da_cons d_int da_nil)))))))
abbrev s__law_sort_behind : Stmt := top 37
theorem sc__law_sort_behind : FnScope ["_law_sorts", "_law_step", "_law_kind"] ["_law_sorts", "_law_step"] (defScope s__law_sort_behind) := ⟨rfl, rfl, rfl, by decide +kernel, rfl, by decide +kernel, by decide +kernel⟩
theorem fn__law_sort_behind (T : Txt K mg w) {f : Addr} {fd : FuncData} (hm : mg "_law_sort_behind" = some (.ref f)) (F : Fun K "_law_sort_behind" "_law_sort_behind" s__law_sort_behind f fd) : FnDG P w K mg base 1 "_law_sort_behind" s__law_sort_behind ["_law_sorts", "_law_step"] m_law_sort_behind := by
  refine fnd_mkG (np := 2) (nN := 3) (k := 0) hm F (F.binds fun _ _ _ _ _ _ us hl => match us, hl with | [_, _], _ => rfl) sc__law_sort_behind rfl rfl fun cdv A outer s H E hr => ?_
  have tk : Takes (cxOf (L2.CX P w) P w K mg base ["_law_sorts", "_law_step", "_law_kind"] "_law_sort_behind" (defScope s__law_sort_behind) f cdv A outer s H E) (fun cls d _ H => E cls d H) := takes_of rfl rfl rfl rfl
  exact (dss_cons (ds_set 2 sc__law_sort_behind.nd (d_disp (dps_cons d_str d_str (dps_cons d_str d_str (dps_cons d_str d_str (dps_cons d_str d_str (dps_cons d_str d_str dps_nil))))))) (dss_cons (ds_if (dt_cmp (op_eqA hr.units) o_eq (d_ix ix_seq o_ix (d_var 1) d_int) d_str) (dss_one (ds_ret (d_ix ix_seq o_ix (d_var 0) (d_ix ix_seq o_ix (d_var 1) d_int)))) dss_nil) (dss_one (ds_ret (d_get hr.units (d_var 2) (d_ix ix_seq o_ix (d_var 1) d_int) d_str)))))
abbrev s__law_kinds_in : Stmt := top 38
theorem sc__law_kinds_in : FnScope ["_law_tale", "_law_sorts", "_law_step"] ["_law_tale"] (defScope s__law_kinds_in) := ⟨rfl, rfl, rfl, by decide +kernel, rfl, by decide +kernel, by decide +kernel⟩
theorem fn__law_kinds_in (T : Txt K mg w) {f : Addr} {fd : FuncData} (hm : mg "_law_kinds_in" = some (.ref f)) (F : Fun K "_law_kinds_in" "_law_kinds_in" s__law_kinds_in f fd) (G__law_sort_behind : FnDG P w K mg base 1 "_law_sort_behind" s__law_sort_behind ["_law_sorts", "_law_step"] m_law_sort_behind) : FnDG P w K mg base 2 "_law_kinds_in" s__law_kinds_in ["_law_tale"] m_law_kinds_in := by
  refine fnd_mkG (np := 1) (nN := 3) (k := 1) hm F (F.binds fun _ _ _ _ _ _ us hl => match us, hl with | [_], _ => rfl) sc__law_kinds_in rfl rfl fun cdv A outer s H E hr => ?_
  have tk : Takes (cxOf (L2.CX P w) P w K mg base ["_law_tale", "_law_sorts", "_law_step"] "_law_kinds_in" (defScope s__law_kinds_in) f cdv A outer s H E) (fun cls d _ H => E cls d H) := takes_of rfl rfl rfl rfl
  exact (dss_cons (ds_set 1 sc__law_kinds_in.nd (d_new (dl_lst (da_cons d_str da_nil)))) (dss_cons (ds_forA (passes_of rfl) rfl (d_var 0) (dg_name 2 sc__law_kinds_in.nd) (dss_one (ds_app (d_var 1) (d_callG G__law_sort_behind hr tk (da_cons (d_var 1) (da_cons (d_var 2) da_nil))) (fun a b => ps_expr (pe_bm PySem.F.plainAttrs_list PySem.F.slot_list_append PySem.F.type_list_append mt_append a (pa_cons b pa_nil)))))) (dss_one (ds_ret (d_var 1)))))
abbrev s__law_rule : Stmt := top 39
theorem sc__law_rule : FnScope ["_law_pot", "_law_fold_word"] ["_law_pot"] (defScope s__law_rule) := ⟨rfl, rfl, rfl, by decide +kernel, rfl, by decide +kernel, by decide +kernel⟩
theorem fn__law_rule (T : Txt K mg w) {f : Addr} {fd : FuncData} (hm : mg "_law_rule" = some (.ref f)) (F : Fun K "_law_rule" "_law_rule" s__law_rule f fd) (G__law_pick : FnDG P w K mg base 1 "_law_pick" s__law_pick ["_law_pot", "_law_many"] m_law_pick_v2) : FnDG P w K mg base 2 "_law_rule" s__law_rule ["_law_pot"] m_law_rule := by
  refine fnd_mkG (np := 1) (nN := 2) (k := 1) hm F (F.binds fun _ _ _ _ _ _ us hl => match us, hl with | [_], _ => rfl) sc__law_rule rfl rfl fun cdv A outer s H E hr => ?_
  have tk : Takes (cxOf (L2.CX P w) P w K mg base ["_law_pot", "_law_fold_word"] "_law_rule" (defScope s__law_rule) f cdv A outer s H E) (fun cls d _ H => E cls d H) := takes_of rfl rfl rfl rfl
  exact (dss_cons (ds_set 1 sc__law_rule.nd (d_ix ix_seq o_ix (d_fz (dl_lst (da_cons d_str (da_cons d_str (da_cons d_str (da_cons d_str (da_cons d_str da_nil))))))) (d_callG G__law_pick hr tk (da_cons (d_var 0) (da_cons d_int da_nil))))) (dss_one (ds_ret (d_tup (da_cons (d_var 1) (da_cons (d_ix ix_seq o_ix (d_fz (dl_lst (da_cons d_str (da_cons d_str (da_cons d_str (da_cons d_str (da_cons d_str da_nil))))))) (d_callG G__law_pick hr tk (da_cons (d_var 0) (da_cons d_int da_nil)))) da_nil))))))
abbrev s__law_words_open : Stmt := top 40
theorem sc__law_words_open : FnScope ["_law_sorts", "_law_tale", "_law_left", "_law_editions", "_law_menu", "_law_step"] ["_law_sorts", "_law_tale", "_law_left", "_law_editions"] (defScope s__law_words_open) := ⟨rfl, rfl, rfl, by decide +kernel, rfl, by decide +kernel, by decide +kernel⟩
theorem fn__law_words_open (T : Txt K mg w) {f : Addr} {fd : FuncData} (hm : mg "_law_words_open" = some (.ref f)) (F : Fun K "_law_words_open" "_law_words_open" s__law_words_open f fd) : FnDG P w K mg base 1 "_law_words_open" s__law_words_open ["_law_sorts", "_law_tale", "_law_left", "_law_editions"] m_law_words_open := by
  refine fnd_mkG (np := 4) (nN := 6) (k := 0) hm F (F.binds fun _ _ _ _ _ _ us hl => match us, hl with | [_, _, _, _], _ => rfl) sc__law_words_open rfl rfl fun cdv A outer s H E hr => ?_
  have tk : Takes (cxOf (L2.CX P w) P w K mg base ["_law_sorts", "_law_tale", "_law_left", "_law_editions", "_law_menu", "_law_step"] "_law_words_open" (defScope s__law_words_open) f cdv A outer s H E) (fun cls d _ H => E cls d H) := takes_of rfl rfl rfl rfl
  exact (dss_cons (ds_set 4 sc__law_words_open.nd (d_fz (dl_lst (da_cons d_str da_nil)))) (dss_cons (ds_if (dt_cmp op_gt o_gt (d_var 2) d_int) (dss_cons (ds_set 4 sc__law_words_open.nd (d_fz (dl_catV (d_var 4) (dl_lst (da_cons d_str (da_cons d_str (da_cons d_str da_nil))))))) (dss_cons (ds_if (dt_cmp op_in_seq o_in d_str (d_var 0) (by rfl)) (dss_one (ds_set 4 sc__law_words_open.nd (d_fz (dl_catV (d_var 4) (dl_lst (da_cons d_str (da_cons d_str (da_cons d_str da_nil)))))))) dss_nil) (dss_one (ds_if (DT.w (dw_and (dt_val (d_var 3)) (dw_and1 (dt_cmp (op_eqA hr.units) o_eq (d_fz (dl_lcA (own := [("_law_step", 5)]) rfl sc__law_words_open.nd (d_var 1) (blkOk_by (own := [("_law_step", 5)]) (N := ["_law_sorts", "_law_tale", "_law_left", "_law_editions", "_law_menu", "_law_step"]) (sc := defScope s__law_words_open) (by decide +kernel)) (fun _ _ _ _ _ => (dg_name 5 sc__law_words_open.nd)) (fun _ _ _ _ _ => (dts_one (dt_cmp (op_eqA hr.units) o_eq (d_ix ix_seq o_ix (d_var 5) d_int) d_str))) (fun _ _ _ _ _ => (d_var 5)))) (d_fz (dl_lst da_nil)))))) (dss_one (ds_set 4 sc__law_words_open.nd (d_fz (dl_catV (d_var 4) (dl_lst (da_cons d_str da_nil)))))) dss_nil)))) dss_nil) (dss_cons (ds_if (dt_cmp op_in_seq o_in d_str (d_var 0) (by rfl)) (dss_cons (ds_set 4 sc__law_words_open.nd (d_fz (dl_catV (d_var 4) (dl_lst (da_cons d_str da_nil))))) (dss_one (ds_if (dt_cmp op_in_seq o_in d_str (d_var 0) (by rfl)) (dss_one (ds_set 4 sc__law_words_open.nd (d_fz (dl_catV (d_var 4) (dl_lst (da_cons d_str (da_cons d_str da_nil))))))) dss_nil))) dss_nil) (dss_one (ds_ret (d_var 4))))))
abbrev s__law_draw_step : Stmt := top 41
theorem sc__law_draw_step : FnScope ["_law_pot", "_law_many", "_law_sorts", "_law_menu", "_law_minutes_", "_law_word", "_law_wanted", "_law_at"] ["_law_pot", "_law_many", "_law_sorts", "_law_menu", "_law_minutes_"] (defScope s__law_draw_step) := ⟨rfl, rfl, rfl, by decide +kernel, rfl, by decide +kernel, by decide +kernel⟩
theorem fn__law_draw_step (T : Txt K mg w) {f : Addr} {fd : FuncData} (hm : mg "_law_draw_step" = some (.ref f)) (F : Fun K "_law_draw_step" "_law_draw_step" s__law_draw_step f fd) (G__law_pick : FnDG P w K mg base 1 "_law_pick" s__law_pick ["_law_pot", "_law_many"] m_law_pick_v2) (G__law_rule : FnDG P w K mg base 2 "_law_rule" s__law_rule ["_law_pot"] m_law_rule) (G__law_draw_spot : FnDG P w K mg base 2 "_law_draw_spot" s__law_draw_spot ["_law_pot", "_law_sorts", "_law_wanted"] m_law_draw_spot) : FnDG P w K mg base 3 "_law_draw_step" s__law_draw_step ["_law_pot", "_law_many", "_law_sorts", "_law_menu", "_law_minutes_"] m_law_draw_step := by
  refine fnd_mkG (np := 5) (nN := 8) (k := 2) hm F (F.binds fun _ _ _ _ _ _ us hl => match us, hl with | [_, _, _, _, _], _ => rfl) sc__law_draw_step rfl rfl fun cdv A outer s H E hr => ?_
  have tk : Takes (cxOf (L2.CX P w) P w K mg base ["_law_pot", "_law_many", "_law_sorts", "_law_menu", "_law_minutes_", "_law_word", "_law_wanted", "_law_at"] "_law_draw_step" (defScope s__law_draw_step) f cdv A outer s H E) (fun cls d _ H => E cls d H) := takes_of rfl rfl rfl rfl
  exact (dss_cons (ds_set 5 sc__law_draw_step.nd (d_ix ix_seq o_ix (d_var 3) (d_callG G__law_pick hr tk (da_cons (d_var 0) (da_cons (d_callB call_len c_len T.n_len (da_cons (d_var 3) da_nil)) da_nil))))) (dss_cons (ds_set 6 sc__law_draw_step.nd (d_disp (dps_cons d_str (d_fz (dl_lst (da_cons d_str da_nil))) (dps_cons d_str (d_fz (dl_lst (da_cons d_str da_nil))) (dps_cons d_str (d_fz (dl_lst (da_cons d_str (da_cons d_str da_nil)))) dps_nil))))) (dss_cons (ds_set 7 sc__law_draw_step.nd (d_callG G__law_draw_spot hr tk (da_cons (d_var 0) (da_cons (d_var 2) (da_cons (d_get hr.units (d_var 6) (d_var 5) (d_fz (dl_lst (da_cons d_str da_nil)))) da_nil))))) (dss_cons (ds_if (dt_cmp (op_eqA hr.units) o_eq (d_var 5) d_str) (dss_one (ds_ret (d_tup (da_cons (d_var 5) (da_cons (d_var 7) (da_cons (d_ix ix_seq o_ix (d_var 4) (d_callG G__law_pick hr tk (da_cons (d_var 0) (da_cons (d_callB call_len c_len T.n_len (da_cons (d_var 4) da_nil)) da_nil)))) da_nil)))))) dss_nil) (dss_cons (ds_if (dt_cmp op_in_seq o_in (d_var 5) (d_fz (dl_lst (da_cons d_str (da_cons d_str da_nil)))) (by rfl)) (dss_one (ds_ret (d_tup (da_cons (d_var 5) (da_cons (d_var 7) (da_cons (d_callG G__law_draw_spot hr tk (da_cons (d_var 0) (da_cons (d_var 2) (da_cons (d_fz (dl_lst (da_cons d_str da_nil))) da_nil)))) da_nil)))))) dss_nil) (dss_cons (ds_if (dt_cmp (op_eqA hr.units) o_eq (d_var 5) d_str) (dss_one (ds_ret (d_op op_addD o_add (d_tup (da_cons (d_var 5) (da_cons (d_var 7) (da_cons (d_callG G__law_pick hr tk (da_cons (d_var 0) (da_cons (d_var 1) da_nil))) da_nil)))) (d_callG G__law_rule hr tk (da_cons (d_var 0) da_nil))))) dss_nil) (dss_one (ds_ret (d_tup (da_cons (d_var 5) (da_cons (d_var 7) (da_cons (d_callG G__law_pick hr tk (da_cons (d_var 0) (da_cons (d_var 1) da_nil))) da_nil))))))))))))
abbrev s__law_draw_tale : Stmt := top 42
theorem sc__law_draw_tale : FnScope ["_law_pot", "_law_many", "_law_size", "_law_left", "_law_editions", "_law_minutes_", "_law_begun", "_law_tale", "_law_sorts", "_law_k", "_law_step"] ["_law_pot", "_law_many", "_law_size", "_law_left", "_law_editions", "_law_minutes_", "_law_begun"] (defScope s__law_draw_tale) := ⟨rfl, rfl, rfl, by decide +kernel, rfl, by decide +kernel, by decide +kernel⟩
theorem fn__law_draw_tale (T : Txt K mg w) {f : Addr} {fd : FuncData} (hm : mg "_law_draw_tale" = some (.ref f)) (F : Fun K "_law_draw_tale" "_law_draw_tale" s__law_draw_tale f fd) (G__law_sort_behind : FnDG P w K mg base 1 "_law_sort_behind" s__law_sort_behind ["_law_sorts", "_law_step"] m_law_sort_behind) (G__law_draw_step : FnDG P w K mg base 3 "_law_draw_step" s__law_draw_step ["_law_pot", "_law_many", "_law_sorts", "_law_menu", "_law_minutes_"] m_law_draw_step) (G__law_words_open : FnDG P w K mg base 1 "_law_words_open" s__law_words_open ["_law_sorts", "_law_tale", "_law_left", "_law_editions"] m_law_words_open) (G__law_kinds_in : FnDG P w K mg base 2 "_law_kinds_in" s__law_kinds_in ["_law_tale"] m_law_kinds_in) : FnDG P w K mg base 4 "_law_draw_tale" s__law_draw_tale ["_law_pot", "_law_many", "_law_size", "_law_left", "_law_editions", "_law_minutes_", "_law_begun"] m_law_draw_tale := by
  refine fnd_mkG (np := 7) (nN := 11) (k := 3) hm F (F.binds fun _ _ _ _ _ _ us hl => match us, hl with | [_, _, _, _, _, _, _], _ => rfl) sc__law_draw_tale rfl rfl fun cdv A outer s H E hr => ?_
  have tk : Takes (cxOf (L2.CX P w) P w K mg base ["_law_pot", "_law_many", "_law_size", "_law_left", "_law_editions", "_law_minutes_", "_law_begun", "_law_tale", "_law_sorts", "_law_k", "_law_step"] "_law_draw_tale" (defScope s__law_draw_tale) f cdv A outer s H E) (fun cls d _ H => E cls d H) := takes_of rfl rfl rfl rfl
  exact (dss_cons (ds_set 7 sc__law_draw_tale.nd (d_new (dl_callTy call_list_of c_list T.n_list (da_cons (d_var 6) da_nil)))) (dss_cons (ds_set 8 sc__law_draw_tale.nd (d_callG G__law_kinds_in hr tk (da_cons (d_var 6) da_nil))) (dss_cons (ds_for (passes_of rfl) rfl (di_range1 (da_cons (d_op op_sub o_sub (d_var 2) (d_callB call_len c_len T.n_len (da_cons (d_var 6) da_nil))) da_nil) T.n_range) (dg_name 9 sc__law_draw_tale.nd) (dss_cons (ds_set 10 sc__law_draw_tale.nd (d_callG G__law_draw_step hr tk (da_cons (d_var 0) (da_cons (d_var 1) (da_cons (d_var 8) (da_cons (d_callG G__law_words_open hr tk (da_cons (d_var 8) (da_cons (d_var 7) (da_cons (d_var 3) (da_cons (d_var 4) da_nil))))) (da_cons (d_var 5) da_nil))))))) (dss_cons (ds_set 3 sc__law_draw_tale.nd (d_op op_sub o_sub (d_var 3) (d_callTy call_int1 c_int1 T.n_int (da_cons (d_cmp op_in_seq o_in (d_ix ix_seq o_ix (d_var 10) d_int) (d_fz (dl_lst (da_cons d_str (da_cons d_str (da_cons d_str (da_cons d_str da_nil)))))) (by rfl)) da_nil)))) (dss_cons (ds_app (d_var 8) (d_callG G__law_sort_behind hr tk (da_cons (d_var 8) (da_cons (d_var 10) da_nil))) (fun a b => ps_expr (pe_bm PySem.F.plainAttrs_list PySem.F.slot_list_append PySem.F.type_list_append mt_append a (pa_cons b pa_nil)))) (dss_one (ds_app (d_var 7) (d_var 10) (fun a b => ps_expr (pe_bm PySem.F.plainAttrs_list PySem.F.slot_list_append PySem.F.type_list_append mt_append a (pa_cons b pa_nil))))))))) (dss_one (ds_ret (d_callTy call_tupF c_tuple T.n_tuple (da_cons (d_var 7) da_nil)))))))
abbrev s__law_hours_in : Stmt := top 43
theorem sc__law_hours_in : FnScope ["_law_tale", "_law_sorts", "_law_k"] ["_law_tale"] (defScope s__law_hours_in) := ⟨rfl, rfl, rfl, by decide +kernel, rfl, by decide +kernel, by decide +kernel⟩
theorem fn__law_hours_in (T : Txt K mg w) {f : Addr} {fd : FuncData} (hm : mg "_law_hours_in" = some (.ref f)) (F : Fun K "_law_hours_in" "_law_hours_in" s__law_hours_in f fd) (G__law_kinds_in : FnDG P w K mg base 2 "_law_kinds_in" s__law_kinds_in ["_law_tale"] m_law_kinds_in) : FnDG P w K mg base 3 "_law_hours_in" s__law_hours_in ["_law_tale"] m_law_hours_in := by
  refine fnd_mkG (np := 1) (nN := 3) (k := 2) hm F (F.binds fun _ _ _ _ _ _ us hl => match us, hl with | [_], _ => rfl) sc__law_hours_in rfl rfl fun cdv A outer s H E hr => ?_
  have tk : Takes (cxOf (L2.CX P w) P w K mg base ["_law_tale", "_law_sorts", "_law_k"] "_law_hours_in" (defScope s__law_hours_in) f cdv A outer s H E) (fun cls d _ H => E cls d H) := takes_of rfl rfl rfl rfl
  exact (dss_cons (ds_set 1 sc__law_hours_in.nd (d_callG G__law_kinds_in hr tk (da_cons (d_var 0) da_nil))) (dss_one (ds_ret (d_fz (dl_lc (own := [("_law_k", 2)]) rfl sc__law_hours_in.nd (di_range1 (da_cons (d_callB call_len c_len T.n_len (da_cons (d_var 1) da_nil)) da_nil) T.n_range) (blkOk_by (own := [("_law_k", 2)]) (N := ["_law_tale", "_law_sorts", "_law_k"]) (sc := defScope s__law_hours_in) (by decide +kernel)) (fun _ _ _ _ _ => (dg_name 2 sc__law_hours_in.nd)) (fun _ _ _ _ _ => (dts_one (dt_cmp (op_neA hr.units) o_ne (d_ix ix_seq o_ix (d_var 1) (d_var 2)) d_str))) (fun _ _ _ _ _ => (d_var 2)))))))
abbrev s__law_draw_shifts : Stmt := top 44
theorem sc__law_draw_shifts : FnScope ["_law_pot", "_law_way", "_law_some", "_law_near", "_law_low", "_law_high", "_law_middle"] ["_law_pot"] (defScope s__law_draw_shifts) := ⟨rfl, rfl, rfl, by decide +kernel, rfl, by decide +kernel, by decide +kernel⟩
theorem fn__law_draw_shifts (T : Txt K mg w) {f : Addr} {fd : FuncData} (hm : mg "_law_draw_shifts" = some (.ref f)) (F : Fun K "_law_draw_shifts" "_law_draw_shifts" s__law_draw_shifts f fd) (G__law_pick : FnDG P w K mg base 1 "_law_pick" s__law_pick ["_law_pot", "_law_many"] m_law_pick_v2) : FnDG P w K mg base 2 "_law_draw_shifts" s__law_draw_shifts ["_law_pot"] m_law_draw_shifts := by
  refine fnd_mkG (np := 1) (nN := 7) (k := 1) hm F (F.binds fun _ _ _ _ _ _ us hl => match us, hl with | [_], _ => rfl) sc__law_draw_shifts rfl rfl fun cdv A outer s H E hr => ?_
  have tk : Takes (cxOf (L2.CX P w) P w K mg base ["_law_pot", "_law_way", "_law_some", "_law_near", "_law_low", "_law_high", "_law_middle"] "_law_draw_shifts" (defScope s__law_draw_shifts) f cdv A outer s H E) (fun cls d _ H => E cls d H) := takes_of rfl rfl rfl rfl
  exact (dss_cons (ds_set 1 sc__law_draw_shifts.nd (d_callG G__law_pick hr tk (da_cons (d_var 0) (da_cons d_int da_nil)))) (dss_cons (ds_set 2 sc__law_draw_shifts.nd (d_fz (dl_lst (da_cons (d_tup (da_cons d_int (da_cons d_int da_nil))) (da_cons (d_tup (da_cons (d_fold (d := .int (-900)) (d_un un_neg o_neg d_int) (fun _ _ => rfl)) (da_cons d_int da_nil))) (da_cons (d_tup (da_cons (d_fold (d := .int (-900)) (d_un un_neg o_neg d_int) (fun _ _ => rfl)) (da_cons (d_fold (d := .int (-899)) (d_un un_neg o_neg d_int) (fun _ _ => rfl)) da_nil))) (da_cons (d_tup (da_cons d_int da_nil)) da_nil))))))) (dss_cons (ds_set 2 sc__law_draw_shifts.nd (d_fz (dl_catV (d_var 2) (dl_lst (da_cons (d_tup (da_cons (d_fold (d := .int (-660)) (d_un un_neg o_neg d_int) (fun _ _ => rfl)) (da_cons (d_fold (d := .int (-600)) (d_un un_neg o_neg d_int) (fun _ _ => rfl)) (da_cons d_int da_nil)))) (da_cons (d_tup (da_cons (d_fold (d := .int (-1)) (d_un un_neg o_neg d_int) (fun _ _ => rfl)) (da_cons d_int (da_cons d_int da_nil)))) (da_cons (d_tup (da_cons d_int (da_cons d_int da_nil))) (da_cons (d_tup (da_cons d_int (da_cons d_int (da_cons d_int da_nil)))) da_nil)))))))) (dss_cons (ds_if (dt_cmp op_lt o_lt (d_var 1) d_int) (dss_one (ds_ret (d_ix ix_seq o_ix (d_var 2) (d_callG G__law_pick hr tk (da_cons (d_var 0) (da_cons d_int da_nil)))))) dss_nil) (dss_cons (ds_set 3 sc__law_draw_shifts.nd (d_ix ix_seq o_ix (d_fz (dl_lst (da_cons d_int (da_cons d_int (da_cons d_int (da_cons d_int (da_cons d_int (da_cons d_int (da_cons d_int da_nil))))))))) (d_callG G__law_pick hr tk (da_cons (d_var 0) (da_cons d_int da_nil))))) (dss_cons (ds_set 4 sc__law_draw_shifts.nd (d_op op_sub o_sub (d_callG G__law_pick hr tk (da_cons (d_var 0) (da_cons d_int da_nil))) d_int)) (dss_cons (ds_set 5 sc__law_draw_shifts.nd (d_callB (call_min2 rfl) c_II T.n_min (da_cons d_int (da_cons (d_op op_addD o_add (d_op op_addD o_add (d_var 4) d_int) (d_callG G__law_pick hr tk (da_cons (d_var 0) (da_cons (d_var 3) da_nil)))) da_nil)))) (dss_cons (ds_set 6 sc__law_draw_shifts.nd (d_op op_addD o_add (d_op op_addD o_add (d_var 4) d_int) (d_callG G__law_pick hr tk (da_cons (d_var 0) (da_cons (d_callB (call_max2 rfl) c_II T.n_max (da_cons d_int (da_cons (d_op op_sub o_sub (d_op op_sub o_sub (d_var 5) (d_var 4)) d_int) da_nil))) da_nil))))) (dss_cons (ds_if (DT.w (dw_and (dt_cmp (op_eqA hr.units) o_eq (d_var 1) d_int) (dw_and1 (dt_chain op_lt op_lt o_lt o_lt (d_var 4) (d_var 6) (d_var 5))))) (dss_one (ds_ret (d_tup (da_cons (d_var 4) (da_cons (d_var 6) (da_cons (d_var 5) da_nil)))))) dss_nil) (dss_one (ds_ret (d_ifExp (DT.w (dw_and (dt_cmp op_lt o_lt (d_var 4) (d_var 5)) (dw_and1 (dt_cmp op_gt o_gt (d_var 1) d_int)))) (d_tup (da_cons (d_var 4) (da_cons (d_var 5) da_nil))) (d_tup (da_cons (d_var 4) da_nil))))))))))))))
abbrev s__law_draw_apart : Stmt := top 45
theorem sc__law_draw_apart : FnScope ["_law_pot", "_law_shifts", "_law_least", "_law_some"] ["_law_pot", "_law_shifts"] (defScope s__law_draw_apart) := ⟨rfl, rfl, rfl, by decide +kernel, rfl, by decide +kernel, by decide +kernel⟩
theorem fn__law_draw_apart (T : Txt K mg w) {f : Addr} {fd : FuncData} (hm : mg "_law_draw_apart" = some (.ref f)) (F : Fun K "_law_draw_apart" "_law_draw_apart" s__law_draw_apart f fd) (G__law_pick : FnDG P w K mg base 1 "_law_pick" s__law_pick ["_law_pot", "_law_many"] m_law_pick_v2) : FnDG P w K mg base 2 "_law_draw_apart" s__law_draw_apart ["_law_pot", "_law_shifts"] m_law_draw_apart := by
  refine fnd_mkG (np := 2) (nN := 4) (k := 1) hm F (F.binds fun _ _ _ _ _ _ us hl => match us, hl with | [_, _], _ => rfl) sc__law_draw_apart rfl rfl fun cdv A outer s H E hr => ?_
  have tk : Takes (cxOf (L2.CX P w) P w K mg base ["_law_pot", "_law_shifts", "_law_least", "_law_some"] "_law_draw_apart" (defScope s__law_draw_apart) f cdv A outer s H E) (fun cls d _ H => E cls d H) := takes_of rfl rfl rfl rfl
  exact (dss_cons (ds_set 2 sc__law_draw_apart.nd (d_op op_addD o_add (d_op op_sub o_sub (d_ix ix_seq o_ix (d_var 1) (d_fold (d := .int (-1)) (d_un un_neg o_neg d_int) (fun _ _ => rfl))) (d_ix ix_seq o_ix (d_var 1) d_int)) d_int)) (dss_cons (ds_set 3 sc__law_draw_apart.nd (d_fz (dl_lst (da_cons (d_var 2) (da_cons (d_var 2) (da_cons (d_op op_addD o_add (d_var 2) (d_callG G__law_pick hr tk (da_cons (d_var 0) (da_cons d_int da_nil)))) (da_cons (d_op op_addD o_add (d_var 2) (d_callG G__law_pick hr tk (da_cons (d_var 0) (da_cons d_int da_nil)))) (da_cons (d_op op_mulW o_mul d_int (d_var 2)) (da_cons d_int (da_cons d_int da_nil)))))))))) (dss_cons (ds_set 3 sc__law_draw_apart.nd (d_fz (dl_catV (d_var 3) (dl_lst (da_cons (d_op op_addD o_add d_int (d_callG G__law_pick hr tk (da_cons (d_var 0) (da_cons d_int da_nil)))) (da_cons (d_op op_addD o_add d_int (d_callG G__law_pick hr tk (da_cons (d_var 0) (da_cons d_int da_nil)))) da_nil)))))) (dss_one (ds_ret (d_callB (call_max2 rfl) c_II T.n_max (da_cons (d_var 2) (da_cons (d_ix ix_seq o_ix (d_var 3) (d_callG G__law_pick hr tk (da_cons (d_var 0) (da_cons d_int da_nil)))) da_nil))))))))
abbrev s__law_draw_fields : Stmt := top 46
theorem sc__law_draw_fields : FnScope ["_law_pot", "_law_many", "_law_most_shifts", "_law_fields", "_law_k", "_law_shifts", "_law_dial"] ["_law_pot", "_law_many", "_law_most_shifts"] (defScope s__law_draw_fields) := ⟨rfl, rfl, rfl, by decide +kernel, rfl, by decide +kernel, by decide +kernel⟩
theorem fn__law_draw_fields (T : Txt K mg w) {f : Addr} {fd : FuncData} (hm : mg "_law_draw_fields" = some (.ref f)) (F : Fun K "_law_draw_fields" "_law_draw_fields" s__law_draw_fields f fd) (G__law_pick : FnDG P w K mg base 1 "_law_pick" s__law_pick ["_law_pot", "_law_many"] m_law_pick_v2) (G__law_draw_apart : FnDG P w K mg base 2 "_law_draw_apart" s__law_draw_apart ["_law_pot", "_law_shifts"] m_law_draw_apart) (G__law_draw_shifts : FnDG P w K mg base 2 "_law_draw_shifts" s__law_draw_shifts ["_law_pot"] m_law_draw_shifts) : FnDG P w K mg base 3 "_law_draw_fields" s__law_draw_fields ["_law_pot", "_law_many", "_law_most_shifts"] m_law_draw_fields := by
  refine fnd_mkG (np := 3) (nN := 7) (k := 2) hm F (F.binds fun _ _ _ _ _ _ us hl => match us, hl with | [_, _, _], _ => rfl) sc__law_draw_fields rfl rfl fun cdv A outer s H E hr => ?_
  have tk : Takes (cxOf (L2.CX P w) P w K mg base ["_law_pot", "_law_many", "_law_most_shifts", "_law_fields", "_law_k", "_law_shifts", "_law_dial"] "_law_draw_fields" (defScope s__law_draw_fields) f cdv A outer s H E) (fun cls d _ H => E cls d H) := takes_of rfl rfl rfl rfl
  exact (dss_cons (ds_set 3 sc__law_draw_fields.nd (d_new (dl_lst da_nil))) (dss_cons (ds_for (passes_of rfl) rfl (di_range1 (da_cons (d_var 1) da_nil) T.n_range) (dg_name 4 sc__law_draw_fields.nd) (dss_cons (ds_set 5 sc__law_draw_fields.nd (d_slT (d_callG G__law_draw_shifts hr tk (da_cons (d_var 0) da_nil)) do_none (do_some (d_var 2)))) (dss_cons (ds_if (DT.w (dw_and (dt_cmp op_gt o_gt (d_var 4) d_int) (dw_and1 (dt_cmp (op_eqA hr.units) o_eq (d_callG G__law_pick hr tk (da_cons (d_var 0) (da_cons d_int da_nil))) d_int)))) (dss_one (ds_set 5 sc__law_draw_fields.nd (d_ix ix_seq o_ix (d_ix ix_seq o_ix (d_var 3) d_int) d_int))) dss_nil) (dss_cons (ds_set 6 sc__law_draw_fields.nd (d_tup (da_cons (d_var 5) (da_cons (d_callG G__law_draw_apart hr tk (da_cons (d_var 0) (da_cons (d_var 5) da_nil))) da_nil)))) (dss_one (ds_app (d_var 3) (d_ifExp (DT.w (dw_and (dt_cmp op_gt o_gt (d_var 4) d_int) (dw_and1 (dt_cmp (op_eqA hr.units) o_eq (d_callG G__law_pick hr tk (da_cons (d_var 0) (da_cons d_int da_nil))) d_int)))) (d_ix ix_seq o_ix (d_var 3) d_int) (d_var 6)) (fun a b => ps_expr (pe_bm PySem.F.plainAttrs_list PySem.F.slot_list_append PySem.F.type_list_append mt_append a (pa_cons b pa_nil))))))))) (dss_one (ds_ret (d_callTy call_tupF c_tuple T.n_tuple (da_cons (d_var 3) da_nil))))))
abbrev s__law_minutes : Stmt := top 47
theorem sc__law_minutes : FnScope ["_law_pot", "_law_fields", "_law_dial", "_law_wide", "_law_some", "_law_drawn", "_law_k", "_law_number"] ["_law_pot", "_law_fields"] (defScope s__law_minutes) := ⟨rfl, rfl, rfl, by decide +kernel, rfl, by decide +kernel, by decide +kernel⟩
theorem fn__law_minutes (T : Txt K mg w) {f : Addr} {fd : FuncData} (hm : mg "_law_minutes" = some (.ref f)) (F : Fun K "_law_minutes" "_law_minutes" s__law_minutes f fd) (G__law_pick : FnDG P w K mg base 1 "_law_pick" s__law_pick ["_law_pot", "_law_many"] m_law_pick_v2) : FnDG P w K mg base 2 "_law_minutes" s__law_minutes ["_law_pot", "_law_fields"] m_law_minutes_v2 := by
  refine fnd_mkG (np := 2) (nN := 8) (k := 1) hm F (F.binds fun _ _ _ _ _ _ us hl => match us, hl with | [_, _], _ => rfl) sc__law_minutes rfl rfl fun cdv A outer s H E hr => ?_
  have tk : Takes (cxOf (L2.CX P w) P w K mg base ["_law_pot", "_law_fields", "_law_dial", "_law_wide", "_law_some", "_law_drawn", "_law_k", "_law_number"] "_law_minutes" (defScope s__law_minutes) f cdv A outer s H E) (fun cls d _ H => E cls d H) := takes_of rfl rfl rfl rfl
  exact (dss_cons (ds_set 2 sc__law_minutes.nd (d_ix ix_seq o_ix (d_var 1) (d_callG G__law_pick hr tk (da_cons (d_var 0) (da_cons (d_callB call_len c_len T.n_len (da_cons (d_var 1) da_nil)) da_nil))))) (dss_cons (ds_set 3 sc__law_minutes.nd (d_op op_sub o_sub (d_ix ix_seq o_ix (d_ix ix_seq o_ix (d_var 2) d_int) (d_fold (d := .int (-1)) (d_un un_neg o_neg d_int) (fun _ _ => rfl))) (d_ix ix_seq o_ix (d_ix ix_seq o_ix (d_var 2) d_int) d_int))) (dss_cons (ds_set 4 sc__law_minutes.nd (d_fz (dl_lst (da_cons (d_var 3) (da_cons (d_op op_sub o_sub (d_var 3) d_int) (da_cons (d_op op_addD o_add (d_var 3) d_int) (da_cons (d_ix ix_seq o_ix (d_var 2) d_int) (da_cons (d_op op_sub o_sub (d_ix ix_seq o_ix (d_var 2) d_int) d_int) (da_cons (d_op op_addD o_add (d_ix ix_seq o_ix (d_var 2) d_int) d_int) (da_cons (d_op op_sub o_sub (d_ix ix_seq o_ix (d_var 2) d_int) (d_var 3)) (da_cons (d_op op_mulW o_mul d_int (d_ix ix_seq o_ix (d_var 2) d_int)) da_nil))))))))))) (dss_cons (ds_set 4 sc__law_minutes.nd (d_fz (dl_catV (d_var 4) (dl_lst (da_cons d_int (da_cons d_int (da_cons d_int (da_cons d_int (da_cons d_int (da_cons (d_callG G__law_pick hr tk (da_cons (d_var 0) (da_cons d_int da_nil))) (da_cons (d_callG G__law_pick hr tk (da_cons (d_var 0) (da_cons d_int da_nil))) (da_cons (d_op op_sub o_sub (d_op op_sub o_sub (d_ix ix_seq o_ix (d_var 2) d_int) (d_var 3)) d_int) da_nil)))))))))))) (dss_cons (ds_setLc (mw := mFz) 5 (own := [("_law_k", 6)]) (rd_fz) rfl sc__law_minutes.nd (di_range1 (da_cons d_int da_nil) T.n_range) (blkOk_by (own := [("_law_k", 6)]) (N := ["_law_pot", "_law_fields", "_law_dial", "_law_wide", "_law_some", "_law_drawn", "_law_k", "_law_number"]) (sc := defScope s__law_minutes) (by decide +kernel)) (fun _ _ _ _ _ => (dg_name 6 sc__law_minutes.nd)) (fun _ _ _ _ _ => dts_nil) (fun _ _ _ _ _ => (d_op op_mulW o_mul (d_ix ix_seq o_ix (d_var 4) (d_callG G__law_pick hr takes0 (da_cons (d_var 0) (da_cons d_int da_nil)))) (d_ix ix_seq o_ix (d_fz (dl_lst (da_cons d_int (da_cons (d_fold (d := .int (-1)) (d_un un_neg o_neg d_int) (fun _ _ => rfl)) da_nil)))) (d_callG G__law_pick hr takes0 (da_cons (d_var 0) (da_cons d_int da_nil))))))) (dss_one (ds_ret (d_fz (dl_lcA (own := [("_law_number", 7)]) rfl sc__law_minutes.nd (d_var 5) (blkOk_by (own := [("_law_number", 7)]) (N := ["_law_pot", "_law_fields", "_law_dial", "_law_wide", "_law_some", "_law_drawn", "_law_k", "_law_number"]) (sc := defScope s__law_minutes) (by decide +kernel)) (fun _ _ _ _ _ => (dg_name 7 sc__law_minutes.nd)) (fun _ _ _ _ _ => dts_nil) (fun _ _ _ _ _ => (d_callB (call_max2 rfl) c_II T.n_max (da_cons (d_fold (d := .int (-100000)) (d_un un_neg o_neg d_int) (fun _ _ => rfl)) (da_cons (d_callB (call_min2 rfl) c_II T.n_min (da_cons d_int (da_cons (d_var 7) da_nil))) da_nil)))))))))))))
abbrev s__law_draw_want : Stmt := top 48
theorem sc__law_draw_want : FnScope ["_law_pot", "_law_hours", "_law_word", "_law_want", "_law_some"] ["_law_pot", "_law_hours"] (defScope s__law_draw_want) := ⟨rfl, rfl, rfl, by decide +kernel, rfl, by decide +kernel, by decide +kernel⟩
theorem fn__law_draw_want (T : Txt K mg w) {f : Addr} {fd : FuncData} (hm : mg "_law_draw_want" = some (.ref f)) (F : Fun K "_law_draw_want" "_law_draw_want" s__law_draw_want f fd) (G__law_pick : FnDG P w K mg base 1 "_law_pick" s__law_pick ["_law_pot", "_law_many"] m_law_pick_v2) : FnDG P w K mg base 2 "_law_draw_want" s__law_draw_want ["_law_pot", "_law_hours"] m_law_draw_want := by
  refine fnd_mkG (np := 2) (nN := 5) (k := 1) hm F (F.binds fun _ _ _ _ _ _ us hl => match us, hl with | [_, _], _ => rfl) sc__law_draw_want rfl rfl fun cdv A outer s H E hr => ?_
  have tk : Takes (cxOf (L2.CX P w) P w K mg base ["_law_pot", "_law_hours", "_law_word", "_law_want", "_law_some"] "_law_draw_want" (defScope s__law_draw_want) f cdv A outer s H E) (fun cls d _ H => E cls d H) := takes_of rfl rfl rfl rfl
  exact (dss_cons (ds_set 2 sc__law_draw_want.nd (d_ix ix_seq o_ix (d_fz (dl_lst (da_cons d_str (da_cons d_str (da_cons d_str (da_cons d_str da_nil)))))) (d_callG G__law_pick hr tk (da_cons (d_var 0) (da_cons d_int da_nil))))) (dss_cons (ds_if (dt_cmp (op_eqA hr.units) o_eq (d_var 2) d_str) (dss_one (ds_ret (d_tup (da_cons (d_var 2) da_nil)))) dss_nil) (dss_cons (ds_set 3 sc__law_draw_want.nd (d_tup (da_cons (d_var 2) (da_cons (d_ix ix_seq o_ix (d_var 1) (d_callG G__law_pick hr tk (da_cons (d_var 0) (da_cons (d_callB call_len c_len T.n_len (da_cons (d_var 1) da_nil)) da_nil)))) (da_cons (d_ix ix_seq o_ix (d_var 1) (d_callG G__law_pick hr tk (da_cons (d_var 0) (da_cons (d_callB call_len c_len T.n_len (da_cons (d_var 1) da_nil)) da_nil)))) da_nil))))) (dss_cons (ds_if (dt_cmp (op_neA hr.units) o_ne (d_var 2) d_str) (dss_one (ds_ret (d_var 3))) dss_nil) (dss_cons (ds_set 4 sc__law_draw_want.nd (d_fz (dl_lst (da_cons d_int (da_cons d_int (da_cons d_int (da_cons d_int (da_cons (d_callG G__law_pick hr tk (da_cons (d_var 0) (da_cons d_int da_nil))) (da_cons (d_callG G__law_pick hr tk (da_cons (d_var 0) (da_cons d_int da_nil))) (da_cons d_int da_nil)))))))))) (dss_one (ds_ret (d_op op_addD o_add (d_var 3) (d_tup (da_cons (d_ix ix_seq o_ix (d_var 4) (d_callG G__law_pick hr tk (da_cons (d_var 0) (da_cons d_int da_nil)))) da_nil))))))))))
abbrev s__law_is_want : Stmt := top 49
theorem sc__law_is_want : FnScope ["_law_sorts", "_law_thing", "_law_size", "_law_at"] ["_law_sorts", "_law_thing"] (defScope s__law_is_want) := ⟨rfl, rfl, rfl, by decide +kernel, rfl, by decide +kernel, by decide +kernel⟩
theorem fn__law_is_want (T : Txt K mg w) {f : Addr} {fd : FuncData} (hm : mg "_law_is_want" = some (.ref f)) (F : Fun K "_law_is_want" "_law_is_want" s__law_is_want f fd) (G__law_whole : FnDG P w K mg base 1 "_law_whole" s__law_whole ["_law_thing"] m_law_whole) : FnDG P w K mg base 2 "_law_is_want" s__law_is_want ["_law_sorts", "_law_thing"] m_law_is_want := by
  refine fnd_mkG (np := 2) (nN := 4) (k := 1) hm F (F.binds fun _ _ _ _ _ _ us hl => match us, hl with | [_, _], _ => rfl) sc__law_is_want rfl rfl fun cdv A outer s H E hr => ?_
  have tk : Takes (cxOf (L2.CX P w) P w K mg base ["_law_sorts", "_law_thing", "_law_size", "_law_at"] "_law_is_want" (defScope s__law_is_want) f cdv A outer s H E) (fun cls d _ H => E cls d H) := takes_of rfl rfl rfl rfl
  exact (dss_cons (ds_if (DT.w (dw_or (dt_not (dt_val (d_isi .tup (d_var 1) T.n_isinstance T.n_tuple))) (dw_or (dt_cmp (op_eqA hr.units) o_eq (d_callB call_len c_len T.n_len (da_cons (d_var 1) da_nil)) d_int) (dw_or1 (dt_not (dt_val (d_isi .str (d_ix ix_seq o_ix (d_var 1) d_int) T.n_isinstance T.n_str))))))) (dss_one (ds_ret d_bl)) dss_nil) (dss_cons (ds_if (dt_cmp (op_eqA hr.units) o_eq (d_ix ix_seq o_ix (d_var 1) d_int) d_str) (dss_one (ds_ret (d_cmp (op_eqA hr.units) o_eq (d_callB call_len c_len T.n_len (da_cons (d_var 1) da_nil)) d_int))) dss_nil) (dss_cons (ds_set 2 sc__law_is_want.nd (d_ifExp (dt_cmp (op_eqA hr.units) o_eq (d_ix ix_seq o_ix (d_var 1) d_int) d_str) d_int d_int)) (dss_cons (ds_if (DT.w (dw_or (dt_cmp op_notIn_seq o_in (d_ix ix_seq o_ix (d_var 1) d_int) (d_fz (dl_lst (da_cons d_str (da_cons d_str (da_cons d_str da_nil))))) (by rfl)) (dw_or1 (dt_cmp (op_neA hr.units) o_ne (d_callB call_len c_len T.n_len (da_cons (d_var 1) da_nil)) (d_var 2))))) (dss_one (ds_ret d_bl)) dss_nil) (dss_cons (ds_forA (passes_of rfl) rfl (d_slT (d_var 1) (do_some d_int) (do_some d_int)) (dg_name 3 sc__law_is_want.nd) (dss_one (ds_if (DT.w (dw_or (dt_not (dt_val (d_callG G__law_whole hr tk (da_cons (d_var 3) da_nil)))) (dw_or (dt_cmp op_lt o_lt (d_var 3) d_int) (dw_or (dt_cmp op_ge o_ge (d_var 3) (d_callB call_len c_len T.n_len (da_cons (d_var 0) da_nil))) (dw_or1 (dt_cmp (op_eqA hr.units) o_eq (d_ix ix_seq o_ix (d_var 0) (d_var 3)) d_str)))))) (dss_one (ds_ret d_bl)) dss_nil))) (dss_one (ds_ret (d_or (d_cmp (op_eqA hr.units) o_eq (d_var 2) d_int) (d_one (d_and (d_callG G__law_whole hr tk (da_cons (d_ix ix_seq o_ix (d_var 1) d_int) da_nil)) (d_one (d_chain op_le op_le o_le o_le d_int (d_ix ix_seq o_ix (d_var 1) d_int) d_int))))))))))))
abbrev s__law_bend : Stmt := top 50
theorem sc__law_bend : FnScope ["_law_pot", "_law_thing", "_law_odd", "_law_way", "_law_at"] ["_law_pot", "_law_thing", "_law_odd"] (defScope s__law_bend) := ⟨rfl, rfl, rfl, by decide +kernel, rfl, by decide +kernel, by decide +kernel⟩
theorem fn__law_bend (T : Txt K mg w) {f : Addr} {fd : FuncData} (hm : mg "_law_bend" = some (.ref f)) (F : Fun K "_law_bend" "_law_bend" s__law_bend f fd) (G__law_pick : FnDG P w K mg base 1 "_law_pick" s__law_pick ["_law_pot", "_law_many"] m_law_pick_v2) : FnDG P w K mg base 2 "_law_bend" s__law_bend ["_law_pot", "_law_thing", "_law_odd"] m_law_bend := by
  refine fnd_mkG (np := 3) (nN := 5) (k := 1) hm F (F.binds fun _ _ _ _ _ _ us hl => match us, hl with | [_, _, _], _ => rfl) sc__law_bend rfl rfl fun cdv A outer s H E hr => ?_
  have tk : Takes (cxOf (L2.CX P w) P w K mg base ["_law_pot", "_law_thing", "_law_odd", "_law_way", "_law_at"] "_law_bend" (defScope s__law_bend) f cdv A outer s H E) (fun cls d _ H => E cls d H) := takes_of rfl rfl rfl rfl
  exact (dss_cons (ds_par 3 4 rfl sc__law_bend.nd (da_cons (d_callG G__law_pick hr tk (da_cons (d_var 0) (da_cons d_int da_nil))) (da_cons (d_callG G__law_pick hr tk (da_cons (d_var 0) (da_cons (d_op op_addD o_add (d_callB call_len c_len T.n_len (da_cons (d_var 1) da_nil)) d_int) da_nil))) da_nil))) (dss_cons (ds_if (dt_cmp (op_eqA hr.units) o_eq (d_var 3) d_int) (dss_one (ds_ret (d_fz (dl_callTy call_list_of c_list T.n_list (da_cons (d_var 1) da_nil))))) dss_nil) (dss_cons (ds_if (dt_cmp (op_eqA hr.units) o_eq (d_var 3) d_int) (dss_one (ds_ret (d_op op_addD o_add (d_op op_addD o_add (d_slT (d_var 1) do_none (do_some (d_var 4))) (d_tup (da_cons (d_var 2) da_nil))) (d_slT (d_var 1) (do_some (d_var 4)) do_none)))) dss_nil) (dss_cons (ds_if (dt_cmp (op_eqA hr.units) o_eq (d_var 3) d_int) (dss_one (ds_ret (d_op op_addD o_add (d_slT (d_var 1) do_none (do_some (d_var 4))) (d_slT (d_var 1) (do_some (d_op op_addD o_add (d_var 4) d_int)) do_none)))) dss_nil) (dss_cons (ds_if (dt_cmp (op_eqA hr.units) o_eq (d_var 3) d_int) (dss_one (ds_ret (d_op op_addD o_add (d_op op_addD o_add (d_slT (d_var 1) do_none (do_some (d_var 4))) (d_slT (d_var 1) (do_some (d_var 4)) (do_some (d_op op_addD o_add (d_var 4) d_int)))) (d_slT (d_var 1) (do_some (d_var 4)) do_none)))) dss_nil) (dss_cons (ds_if (dt_cmp (op_eqA hr.units) o_eq (d_var 3) d_int) (dss_one (ds_ret (d_op op_addD o_add (d_op op_addD o_add (d_slT (d_var 1) do_none (do_some (d_var 4))) (d_backA (d_slT (d_var 1) (do_some (d_var 4)) (do_some (d_op op_addD o_add (d_var 4) d_int))))) (d_slT (d_var 1) (do_some (d_op op_addD o_add (d_var 4) d_int)) do_none)))) dss_nil) (dss_one (ds_ret (d_op op_addD o_add (d_op op_addD o_add (d_slT (d_var 1) do_none (do_some (d_var 4))) (d_tup (da_cons (d_var 2) da_nil))) (d_slT (d_var 1) (do_some (d_op op_addD o_add (d_var 4) d_int)) do_none))))))))))
abbrev s__law_any_odd : Stmt := top 51
theorem sc__law_any_odd : FnScope ["_law_pot", "_law_some"] ["_law_pot"] (defScope s__law_any_odd) := ⟨rfl, rfl, rfl, by decide +kernel, rfl, by decide +kernel, by decide +kernel⟩
theorem fn__law_any_odd (T : Txt K mg w) {f : Addr} {fd : FuncData} (hm : mg "_law_any_odd" = some (.ref f)) (F : Fun K "_law_any_odd" "_law_any_odd" s__law_any_odd f fd) (G__law_pick : FnDG P w K mg base 1 "_law_pick" s__law_pick ["_law_pot", "_law_many"] m_law_pick_v2) (GI_Refused : XiOkT P w K mg base 1 "Refused" ["step"] "a find is refused") : FnDG P w K mg base 3 "_law_any_odd" s__law_any_odd ["_law_pot"] m_law_any_odd_v2 := by
  refine fnd_mkG (np := 1) (nN := 2) (k := 2) hm F (F.binds fun _ _ _ _ _ _ us hl => match us, hl with | [_], _ => rfl) sc__law_any_odd rfl rfl fun cdv A outer s H E hr => ?_
  have tk : Takes (cxOf (L2.CX P w) P w K mg base ["_law_pot", "_law_some"] "_law_any_odd" (defScope s__law_any_odd) f cdv A outer s H E) (fun cls d _ H => E cls d H) := takes_of rfl rfl rfl rfl
  exact (dss_cons (ds_set 1 sc__law_any_odd.nd (d_fz (dl_lst (da_cons d_non (da_cons d_bl (da_cons d_bl (da_cons d_int (da_cons d_int (da_cons (d_fold (d := .int (-1)) (d_un un_neg o_neg d_int) (fun _ _ => rfl)) (da_cons d_int (da_cons d_int (da_cons (d_fold (d := .int 1000000000000000000000000000000) (d_op op_pow o_pow d_int d_int) (fun _ _ => rfl)) (da_cons (d_fold (d := .int (-1000000000000000000000000000000)) (d_un un_neg o_neg (d_fold (d := .int 1000000000000000000000000000000) (d_op op_pow o_pow d_int d_int) (fun _ _ => rfl))) (fun _ _ => rfl)) da_nil))))))))))))) (dss_cons (ds_set 1 sc__law_any_odd.nd (d_fz (dl_catV (d_var 1) (dl_lst (da_cons d_str (da_cons d_str (da_cons d_str (da_cons d_str (da_cons (d_tup da_nil) (da_cons (d_fz (dl_lst da_nil)) (da_cons (d_fz (dl_lst (da_cons d_int da_nil))) (da_cons (d_tup (da_cons d_int da_nil)) (da_cons (d_tup (da_cons (d_tup da_nil) da_nil)) da_nil))))))))))))) (dss_cons (ds_set 1 sc__law_any_odd.nd (d_fz (dl_catV (d_var 1) (dl_lst (da_cons (d_tup (da_cons d_str da_nil)) (da_cons (d_fz (dl_lst (da_cons d_str da_nil))) (da_cons d_str (da_cons d_str (da_cons d_int da_nil))))))))) (dss_cons (ds_set 1 sc__law_any_odd.nd (d_fz (dl_catV (d_var 1) (dl_lst (da_cons (d_newTX GI_Refused T.p__Refused hr.toRoom (da_cons d_int da_nil)) (da_cons (d_newT T.x_HourError T.p__HourError) (da_cons (d_tup (da_cons d_str (da_cons d_int (da_cons d_int da_nil)))) (da_cons (d_fz (dl_lst (da_cons (d_tup da_nil) da_nil))) da_nil)))))))) (dss_one (ds_ret (d_ix ix_seq o_ix (d_var 1) (d_callG G__law_pick hr tk (da_cons (d_var 0) (da_cons (d_callB call_len c_len T.n_len (da_cons (d_var 1) da_nil)) da_nil))))))))))
abbrev s__law_tells : Stmt := top 52
theorem sc__law_tells : FnScope ["_law_found", "_law_due"] ["_law_found", "_law_due"] (defScope s__law_tells) := ⟨rfl, rfl, rfl, by decide +kernel, rfl, by decide +kernel, by decide +kernel⟩
theorem fn__law_tells (T : Txt K mg w) {f : Addr} {fd : FuncData} (hm : mg "_law_tells" = some (.ref f)) (F : Fun K "_law_tells" "_law_tells" s__law_tells f fd) : FnDG P w K mg base 1 "_law_tells" s__law_tells ["_law_found", "_law_due"] m_law_tells := by
  refine fnd_mkG (np := 2) (nN := 2) (k := 0) hm F (F.binds fun _ _ _ _ _ _ us hl => match us, hl with | [_, _], _ => rfl) sc__law_tells rfl rfl fun cdv A outer s H E hr => ?_
  have tk : Takes (cxOf (L2.CX P w) P w K mg base ["_law_found", "_law_due"] "_law_tells" (defScope s__law_tells) f cdv A outer s H E) (fun cls d _ H => E cls d H) := takes_of rfl rfl rfl rfl
  exact (dss_one (ds_ret (d_and (d_isi .bl (d_var 0) T.n_isinstance T.n_bool) (d_one (d_cmp (op_eqA hr.units) o_eq (d_var 0) (d_var 1))))))
abbrev s__law_asked : Stmt := top 53
theorem sc__law_asked : FnScope ["_law_fields", "_law_tale", "_law_sorts", "_law_thing", "_law_ahead"] ["_law_fields", "_law_tale", "_law_sorts", "_law_thing"] (defScope s__law_asked) := ⟨rfl, rfl, rfl, by decide +kernel, rfl, by decide +kernel, by decide +kernel⟩
theorem fn__law_asked (T : Txt K mg w) {f : Addr} {fd : FuncData} (hm : mg "_law_asked" = some (.ref f)) (F : Fun K "_law_asked" "_law_asked" s__law_asked f fd) (G__law_tells : FnDG P w K mg base 1 "_law_tells" s__law_tells ["_law_found", "_law_due"] m_law_tells) (G__law_is_want : FnDG P w K mg base 2 "_law_is_want" s__law_is_want ["_law_sorts", "_law_thing"] m_law_is_want) (G_is_wish : FnDG P w K mg base 7 "is_wish" s_is_wish ["zones", "program", "value"] m_is_wish) : FnDG P w K mg base 8 "_law_asked" s__law_asked ["_law_fields", "_law_tale", "_law_sorts", "_law_thing"] m_law_asked_v7 := by
  refine fnd_mkG (np := 4) (nN := 5) (k := 7) hm F (F.binds fun _ _ _ _ _ _ us hl => match us, hl with | [_, _, _, _], _ => rfl) sc__law_asked rfl rfl fun cdv A outer s H E hr => ?_
  have tk : Takes (cxOf (L2.CX P w) P w K mg base ["_law_fields", "_law_tale", "_law_sorts", "_law_thing", "_law_ahead"] "_law_asked" (defScope s__law_asked) f cdv A outer s H E) (fun cls d _ H => E cls d H) := takes_of rfl rfl rfl rfl
  exact (dss_cons (ds_set 4 sc__law_asked.nd (d_callB (cr_reprX hr) (c_reprX T.r_repr) T.n_repr (da_cons (d_var 3) da_nil))) (dss_one (ds_ret (d_and (d_callG G__law_tells hr tk (da_cons (d_callG G_is_wish hr tk (da_cons (d_var 0) (da_cons (d_var 1) (da_cons (d_var 3) da_nil)))) (da_cons (d_callG G__law_is_want hr tk (da_cons (d_var 2) (da_cons (d_var 3) da_nil))) da_nil))) (d_one (d_cmp (op_eqA hr.units) o_eq (d_callB (cr_reprX hr) (c_reprX T.r_repr) T.n_repr (da_cons (d_var 3) da_nil)) (d_var 4)))))))
abbrev s__law_right : Stmt := top 54
theorem sc__law_right : FnScope ["_law_pot", "_law_fields", "_law_tale", "_law_sorts", "_law_hours", "_law_k", "_law_want", "_law_bent", "_law_thing", "_law_at", "_law_most_apart"] ["_law_pot"] (defScope s__law_right) := ⟨rfl, rfl, rfl, by decide +kernel, rfl, by decide +kernel, by decide +kernel⟩
theorem fn__law_right (T : Txt K mg w) {f : Addr} {fd : FuncData} (hm : mg "_law_right" = some (.ref f)) (F : Fun K "_law_right" "_law_right" s__law_right f fd) (G__law_asked : FnDG P w K mg base 8 "_law_asked" s__law_asked ["_law_fields", "_law_tale", "_law_sorts", "_law_thing"] m_law_asked_v7) (G__law_bend : FnDG P w K mg base 2 "_law_bend" s__law_bend ["_law_pot", "_law_thing", "_law_odd"] m_law_bend) (G__law_any_odd : FnDG P w K mg base 3 "_law_any_odd" s__law_any_odd ["_law_pot"] m_law_any_odd_v2) (G_is_wish : FnDG P w K mg base 7 "is_wish" s_is_wish ["zones", "program", "value"] m_is_wish) (G__law_draw_want : FnDG P w K mg base 2 "_law_draw_want" s__law_draw_want ["_law_pot", "_law_hours"] m_law_draw_want) (G__law_hours_in : FnDG P w K mg base 3 "_law_hours_in" s__law_hours_in ["_law_tale"] m_law_hours_in) (G__law_kinds_in : FnDG P w K mg base 2 "_law_kinds_in" s__law_kinds_in ["_law_tale"] m_law_kinds_in) (G__law_draw_tale : FnDG P w K mg base 4 "_law_draw_tale" s__law_draw_tale ["_law_pot", "_law_many", "_law_size", "_law_left", "_law_editions", "_law_minutes_", "_law_begun"] m_law_draw_tale) (G__law_minutes : FnDG P w K mg base 2 "_law_minutes" s__law_minutes ["_law_pot", "_law_fields"] m_law_minutes_v2) (G__law_pick : FnDG P w K mg base 1 "_law_pick" s__law_pick ["_law_pot", "_law_many"] m_law_pick_v2) (G__law_draw_fields : FnDG P w K mg base 3 "_law_draw_fields" s__law_draw_fields ["_law_pot", "_law_many", "_law_most_shifts"] m_law_draw_fields) : FnDG P w K mg base 9 "_law_right" s__law_right ["_law_pot"] m_law_right_v31 := by
  refine fnd_mkG (np := 1) (nN := 11) (k := 8) hm F (F.binds fun _ _ _ _ _ _ us hl => match us, hl with | [_], _ => rfl) sc__law_right rfl rfl fun cdv A outer s H E hr => ?_
  have tk : Takes (cxOf (L2.CX P w) P w K mg base ["_law_pot", "_law_fields", "_law_tale", "_law_sorts", "_law_hours", "_law_k", "_law_want", "_law_bent", "_law_thing", "_law_at", "_law_most_apart"] "_law_right" (defScope s__law_right) f cdv A outer s H E) (fun cls d _ H => E cls d H) := takes_of rfl rfl rfl rfl
  exact (dss_cons (ds_set 1 sc__law_right.nd (d_callG G__law_draw_fields hr tk (da_cons (d_var 0) (da_cons (d_op op_addD o_add d_int (d_callG G__law_pick hr tk (da_cons (d_var 0) (da_cons d_int da_nil)))) (da_cons d_int da_nil))))) (dss_cons (ds_set 2 sc__law_right.nd (d_callG G__law_draw_tale hr tk (da_cons (d_var 0) (da_cons (d_callB call_len c_len T.n_len (da_cons (d_var 1) da_nil)) (da_cons (d_callG G__law_pick hr tk (da_cons (d_var 0) (da_cons d_int da_nil))) (da_cons d_int (da_cons d_bl (da_cons (d_callG G__law_minutes hr tk (da_cons (d_var 0) (da_cons (d_var 1) da_nil))) (da_cons (d_tup da_nil) da_nil))))))))) (dss_cons (ds_par 3 4 rfl sc__law_right.nd (da_cons (d_callG G__law_kinds_in hr tk (da_cons (d_var 2) da_nil)) (da_cons (d_callG G__law_hours_in hr tk (da_cons (d_var 2) da_nil)) da_nil))) (dss_cons (ds_for (passes_of rfl) rfl (di_range1 (da_cons d_int da_nil) T.n_range) (dg_name 5 sc__law_right.nd) (dss_cons (ds_set 6 sc__law_right.nd (d_callG G__law_draw_want hr tk (da_cons (d_var 0) (da_cons (d_var 4) da_nil)))) (dss_cons (ds_if (dt_cmp op_notBl o_notB (d_callG G_is_wish hr tk (da_cons (d_var 1) (da_cons (d_var 2) (da_cons (d_var 6) da_nil)))) d_bl) (dss_one (ds_ret d_bl)) dss_nil) (dss_cons (ds_set 7 sc__law_right.nd (d_callG G__law_bend hr tk (da_cons (d_var 0) (da_cons (d_var 6) (da_cons (d_callG G__law_any_odd hr tk (da_cons (d_var 0) da_nil)) da_nil))))) (dss_cons (ds_for (passes_of rfl) rfl (di_seq (d_fz (dl_lst (da_cons (d_var 7) (da_cons (d_callG G__law_any_odd hr tk (da_cons (d_var 0) da_nil)) (da_cons (d_tup (da_cons (d_var 7) da_nil)) (da_cons (d_op op_addD o_add (d_tup (da_cons (d_op op_add_str o_catS (d_ix ix_seq o_ix (d_var 6) d_int) d_str) da_nil)) (d_slT (d_var 6) (do_some d_int) do_none)) da_nil))))))) (dg_name 8 sc__law_right.nd) (dss_one (ds_if (dt_not (dt_val (d_callG G__law_asked hr tk (da_cons (d_var 1) (da_cons (d_var 2) (da_cons (d_var 3) (da_cons (d_var 8) da_nil))))))) (dss_one (ds_ret d_bl)) dss_nil))) (dss_cons (ds_if (dt_val (d_isi .tup (d_var 7) T.n_isinstance T.n_tuple)) (dss_one (ds_set 7 sc__law_right.nd (d_callG G__law_bend hr tk (da_cons (d_var 0) (da_cons (d_var 7) (da_cons (d_callG G__law_any_odd hr tk (da_cons (d_var 0) da_nil)) da_nil)))))) dss_nil) (dss_one (ds_if (dt_not (dt_val (d_callG G__law_asked hr tk (da_cons (d_var 1) (da_cons (d_var 2) (da_cons (d_var 3) (da_cons (d_var 7) da_nil))))))) (dss_one (ds_ret d_bl)) dss_nil)))))))) (dss_cons (ds_for (passes_of rfl) rfl (di_range2 (da_cons (d_fold (d := .int (-1)) (d_un un_neg o_neg d_int) (fun _ _ => rfl)) (da_cons (d_op op_addD o_add (d_callB call_len c_len T.n_len (da_cons (d_var 3) da_nil)) d_int) da_nil)) T.n_range) (dg_name 9 sc__law_right.nd) (dss_one (ds_for (passes_of rfl) rfl (di_seq (d_fz (dl_lst (da_cons (d_tup (da_cons d_str (da_cons (d_var 9) (da_cons d_int da_nil)))) (da_cons (d_tup (da_cons d_str (da_cons d_int (da_cons (d_var 9) da_nil)))) (da_cons (d_tup (da_cons d_str (da_cons (d_var 9) (da_cons d_int (da_cons (d_op op_addD o_add (d_var 9) d_int) da_nil))))) (da_cons (d_tup (da_cons d_str (da_cons d_int (da_cons (d_var 9) (da_cons d_int da_nil))))) da_nil))))))) (dg_name 6 sc__law_right.nd) (dss_one (ds_if (dt_not (dt_val (d_callG G__law_asked hr tk (da_cons (d_var 1) (da_cons (d_var 2) (da_cons (d_var 3) (da_cons (d_var 6) da_nil))))))) (dss_one (ds_ret d_bl)) dss_nil))))) (dss_cons (ds_for (passes_of rfl) rfl (di_seq (d_fz (dl_lst (da_cons d_int (da_cons d_int (da_cons d_int (da_cons (d_fold (d := .int (-1)) (d_un un_neg o_neg d_int) (fun _ _ => rfl)) (da_cons d_bl (da_cons d_str (da_cons d_non da_nil)))))))))) (dg_name 10 sc__law_right.nd) (dss_one (ds_if (dt_not (dt_val (d_callG G__law_asked hr tk (da_cons (d_var 1) (da_cons (d_var 2) (da_cons (d_var 3) (da_cons (d_tup (da_cons d_str (da_cons d_int (da_cons d_int (da_cons (d_var 10) da_nil))))) da_nil))))))) (dss_one (ds_ret d_bl)) dss_nil))) (dss_one (ds_ret d_bl))))))))
abbrev s_law : Stmt := top 55
theorem sc_law : FnScope ["_law_script", "_law_cell"] ["_law_script"] (defScope s_law) := ⟨rfl, rfl, rfl, by decide +kernel, rfl, by decide +kernel, by decide +kernel⟩
theorem fn_law (T : Txt K mg w) {f : Addr} {fd : FuncData} (hm : mg "law" = some (.ref f)) (F : Fun K "law" "law" s_law f fd) (G__law_right : FnDG P w K mg base 9 "_law_right" s__law_right ["_law_pot"] m_law_right_v31) (G__law_make_pot : FnDG P w K mg base 1 "_law_make_pot" s__law_make_pot ["_law_cell"] m_law_make_pot_v2) (G__law_cells : FnDG P w K mg base 1 "_law_cells" s__law_cells ["_law_script", "_law_many"] m_law_cells) : FnDG P w K mg base 10 "law" s_law ["_law_script"] m_law_k37_wishes_about_a_program_v2 := by
  refine fnd_mkG (np := 1) (nN := 2) (k := 9) hm F (F.binds fun _ _ _ _ _ _ us hl => match us, hl with | [_], _ => rfl) sc_law rfl rfl fun cdv A outer s H E hr => ?_
  have tk : Takes (cxOf (L2.CX P w) P w K mg base ["_law_script", "_law_cell"] "law" (defScope s_law) f cdv A outer s H E) (fun cls d _ H => E cls d H) := takes_of rfl rfl rfl rfl
  exact (dss_cons (ds_forA (passes_of rfl) rfl (d_callG G__law_cells hr tk (da_cons (d_var 0) (da_cons d_int da_nil))) (dg_name 1 sc_law.nd) (dss_one (ds_if (dt_not (dt_val (d_callG G__law_right hr tk (da_cons (d_callG G__law_make_pot hr tk (da_cons (d_var 1) da_nil)) da_nil)))) (dss_one (ds_ret d_bl)) dss_nil))) (dss_one (ds_ret d_bl)))
abbrev si_Refused : Stmt := inClass (top 4) 0
theorem sci_Refused : FnScope ["self", "step"] ["self", "step"] (defScope si_Refused) := ⟨rfl, rfl, rfl, by decide +kernel, rfl, by decide +kernel, by decide +kernel⟩
end
theorem all_mk {l : PySem.W.OpenLaw} {w : World} {K : Frag} {h : Heap} {mg : Str → Option Value} {fa : Addr} (hlaw : LawTrue m_law_k37_wishes_about_a_program_v2) (X : K.In h) (G : h.Ns mainGlobals mg) (hfa : mg "law" = some (.ref fa))
    {f0 : Addr} {od0 an0 : Option Addr} {sl0 : Array (Option Value)} {oc0 kV0 dc0 pm0 cd0 ct0 : Value} {f1 : Addr} {od1 an1 : Option Addr} {sl1 : Array (Option Value)} {oc1 kV1 dc1 pm1 cd1 ct1 : Value} {f2 : Addr} {od2 an2 : Option Addr} {sl2 : Array (Option Value)} {oc2 kV2 dc2 pm2 cd2 ct2 : Value} {f3 : Addr} {od3 an3 : Option Addr} {sl3 : Array (Option Value)} {oc3 kV3 dc3 pm3 cd3 ct3 : Value} {f4 : Addr} {od4 an4 : Option Addr} {sl4 : Array (Option Value)} {oc4 kV4 dc4 pm4 cd4 ct4 : Value} {f5 : Addr} {od5 an5 : Option Addr} {sl5 : Array (Option Value)} {oc5 kV5 dc5 pm5 cd5 ct5 : Value} {f6 : Addr} {od6 an6 : Option Addr} {sl6 : Array (Option Value)} {oc6 kV6 dc6 pm6 cd6 ct6 : Value} {f7 : Addr} {od7 an7 : Option Addr} {sl7 : Array (Option Value)} {oc7 kV7 dc7 pm7 cd7 ct7 : Value} {f8 : Addr} {od8 an8 : Option Addr} {sl8 : Array (Option Value)} {oc8 kV8 dc8 pm8 cd8 ct8 : Value} {f9 : Addr} {od9 an9 : Option Addr} {sl9 : Array (Option Value)} {oc9 kV9 dc9 pm9 cd9 ct9 : Value} {f10 : Addr} {od10 an10 : Option Addr} {sl10 : Array (Option Value)} {oc10 kV10 dc10 pm10 cd10 ct10 : Value} {f11 : Addr} {od11 an11 : Option Addr} {sl11 : Array (Option Value)} {oc11 kV11 dc11 pm11 cd11 ct11 : Value} {f12 : Addr} {od12 an12 : Option Addr} {sl12 : Array (Option Value)} {oc12 kV12 dc12 pm12 cd12 ct12 : Value} {f13 : Addr} {od13 an13 : Option Addr} {sl13 : Array (Option Value)} {oc13 kV13 dc13 pm13 cd13 ct13 : Value} {f14 : Addr} {od14 an14 : Option Addr} {sl14 : Array (Option Value)} {oc14 kV14 dc14 pm14 cd14 ct14 : Value} {f15 : Addr} {od15 an15 : Option Addr} {sl15 : Array (Option Value)} {oc15 kV15 dc15 pm15 cd15 ct15 : Value} {f16 : Addr} {od16 an16 : Option Addr} {sl16 : Array (Option Value)} {oc16 kV16 dc16 pm16 cd16 ct16 : Value} {f17 : Addr} {od17 an17 : Option Addr} {sl17 : Array (Option Value)} {oc17 kV17 dc17 pm17 cd17 ct17 : Value} {f18 : Addr} {od18 an18 : Option Addr} {sl18 : Array (Option Value)} {oc18 kV18 dc18 pm18 cd18 ct18 : Value} {f19 : Addr} {od19 an19 : Option Addr} {sl19 : Array (Option Value)} {oc19 kV19 dc19 pm19 cd19 ct19 : Value} {f20 : Addr} {od20 an20 : Option Addr} {sl20 : Array (Option Value)} {oc20 kV20 dc20 pm20 cd20 ct20 : Value} {f21 : Addr} {od21 an21 : Option Addr} {sl21 : Array (Option Value)} {oc21 kV21 dc21 pm21 cd21 ct21 : Value} {f22 : Addr} {od22 an22 : Option Addr} {sl22 : Array (Option Value)} {oc22 kV22 dc22 pm22 cd22 ct22 : Value} {f23 : Addr} {od23 an23 : Option Addr} {sl23 : Array (Option Value)} {oc23 kV23 dc23 pm23 cd23 ct23 : Value} {f24 : Addr} {od24 an24 : Option Addr} {sl24 : Array (Option Value)} {oc24 kV24 dc24 pm24 cd24 ct24 : Value} {f25 : Addr} {od25 an25 : Option Addr} {sl25 : Array (Option Value)} {oc25 kV25 dc25 pm25 cd25 ct25 : Value} {f26 : Addr} {od26 an26 : Option Addr} {sl26 : Array (Option Value)} {oc26 kV26 dc26 pm26 cd26 ct26 : Value} {f27 : Addr} {od27 an27 : Option Addr} {sl27 : Array (Option Value)} {oc27 kV27 dc27 pm27 cd27 ct27 : Value} {f28 : Addr} {od28 an28 : Option Addr} {sl28 : Array (Option Value)} {oc28 kV28 dc28 pm28 cd28 ct28 : Value} {f29 : Addr} {od29 an29 : Option Addr} {sl29 : Array (Option Value)} {oc29 kV29 dc29 pm29 cd29 ct29 : Value} {f30 : Addr} {od30 an30 : Option Addr} {sl30 : Array (Option Value)} {oc30 kV30 dc30 pm30 cd30 ct30 : Value} {f31 : Addr} {od31 an31 : Option Addr} {sl31 : Array (Option Value)} {oc31 kV31 dc31 pm31 cd31 ct31 : Value} {f32 : Addr} {od32 an32 : Option Addr} {sl32 : Array (Option Value)} {oc32 kV32 dc32 pm32 cd32 ct32 : Value} {f33 : Addr} {od33 an33 : Option Addr} {sl33 : Array (Option Value)} {oc33 kV33 dc33 pm33 cd33 ct33 : Value} {f34 : Addr} {od34 an34 : Option Addr} {sl34 : Array (Option Value)} {oc34 kV34 dc34 pm34 cd34 ct34 : Value} {f35 : Addr} {od35 an35 : Option Addr} {sl35 : Array (Option Value)} {oc35 kV35 dc35 pm35 cd35 ct35 : Value} {f36 : Addr} {od36 an36 : Option Addr} {sl36 : Array (Option Value)} {oc36 kV36 dc36 pm36 cd36 ct36 : Value} {Q0_1 : Addr} {nQ0_1 : Nat} {sQ0_1 : Array (Option Value)} {tQ0_2 : Tok} {tQ0_3 : Tok} {tQ0_4 : Tok} {Q1_1 : Addr} {nQ1_1 : Nat} {sQ1_1 : Array (Option Value)} {tQ1_2 : Tok} {tQ1_3 : Tok} {tQ1_4 : Tok} {Q2_t : Addr} {nQ2_t : Nat} {hQ2_0 : Int} {uQ2_0 : Tok} {tQ2_1 : Tok} {hQ2_1 : Int} {uQ2_1 : Tok} {tQ2_2 : Tok} {hQ2_2 : Int} {uQ2_2 : Tok} {tQ2_3 : Tok} {hQ2_3 : Int} {uQ2_3 : Tok} {tQ2_4 : Tok} {hQ2_4 : Int} {uQ2_4 : Tok} {tQ2_5 : Tok} {hQ2_5 : Int} {uQ2_5 : Tok} {tQ2_6 : Tok} {t3 : Tok} {t4 : Tok} {t5 : Tok} {t6 : Tok} {t7 : Tok} {Q8_t : Addr} {nQ8_t : Nat} {hQ8_0 : Int} {uQ8_0 : Tok} {Q8_1 : Addr} {nQ8_1 : Nat} {sQ8_1 : Array (Option Value)} {tQ8_2 : Tok} {tQ8_3 : Tok} {hQ8_1 : Int} {uQ8_1 : Tok} {Q8_4 : Addr} {nQ8_4 : Nat} {sQ8_4 : Array (Option Value)} {tQ8_5 : Tok} {tQ8_6 : Tok} {tQ8_7 : Tok} {tQ8_8 : Tok} {hQ8_2 : Int} {uQ8_2 : Tok} {Q8_9 : Addr} {nQ8_9 : Nat} {sQ8_9 : Array (Option Value)} {tQ8_10 : Tok} {tQ8_11 : Tok} {hQ8_3 : Int} {uQ8_3 : Tok} {Q8_12 : Addr} {nQ8_12 : Nat} {sQ8_12 : Array (Option Value)} {tQ8_13 : Tok} {tQ8_14 : Tok} {hQ8_4 : Int} {uQ8_4 : Tok} {Q8_15 : Addr} {nQ8_15 : Nat} {sQ8_15 : Array (Option Value)} {tQ8_16 : Tok} {tQ8_17 : Tok} {hQ8_5 : Int} {uQ8_5 : Tok} {Q8_18 : Addr} {nQ8_18 : Nat} {sQ8_18 : Array (Option Value)} {tQ8_19 : Tok} {tQ8_20 : Tok} {hQ8_6 : Int} {uQ8_6 : Tok} {Q8_21 : Addr} {nQ8_21 : Nat} {sQ8_21 : Array (Option Value)} {tQ8_22 : Tok} {tQ8_23 : Tok} {Q9_t : Addr} {nQ9_t : Nat} {hQ9_0 : Int} {uQ9_0 : Tok} {Q9_1 : Addr} {nQ9_1 : Nat} {sQ9_1 : Array (Option Value)} {hQ9_1 : Int} {uQ9_1 : Tok} {Q9_2 : Addr} {nQ9_2 : Nat} {sQ9_2 : Array (Option Value)} {tQ9_3 : Tok} {tQ9_4 : Tok} {hQ9_2 : Int} {uQ9_2 : Tok} {Q9_5 : Addr} {nQ9_5 : Nat} {sQ9_5 : Array (Option Value)} {tQ9_6 : Tok} {tQ9_7 : Tok} {hQ9_3 : Int} {uQ9_3 : Tok} {Q9_8 : Addr} {nQ9_8 : Nat} {sQ9_8 : Array (Option Value)} {tQ9_9 : Tok} {tQ9_10 : Tok} {tQ9_11 : Tok} {C0 : Addr} {C1 : Addr} {C2 : Addr} {C3 : Addr} {cdN0 : ClassData} {cdN3 : ClassData} {nm_3 q_3 : Str} {N_3 fI_3 : Addr} {bs_3 bm_3 sub_3 : List Value} {sn_3 : List Str} {ab_3 : Bool} {col_3 : Option Bool} {dd_3 : Option Addr} {m0_3 m1_3 m2_3 m3_3 m5_3 : Option Value} {oI_3 kVI_3 dcI_3 pmI_3 cdI_3 ctI_3 : Value} {odI_3 anI_3 : Option Addr} {slI_3 : Array (Option Value)}
    (a0 : PySem.W.nsIn K mainGlobals "is_integer" = some (some (.ref f0)))
    (l0 : K.lookup f0 = some ⟨oc0, od0, .func (PySem.W.fnOf "is_integer" "is_integer" (defArgs s_is_integer) (defBody s_is_integer) (defScope s_is_integer) .none kV0 dc0 pm0 an0 cd0 ct0), sl0⟩)
    (c0 : PySem.W.codeIn K cd0 "is_integer" = true)
    (k0 : PySem.W.keepIn K (.ref f0) = true)
    (a1 : PySem.W.nsIn K mainGlobals "is_zone" = some (some (.ref f1)))
    (l1 : K.lookup f1 = some ⟨oc1, od1, .func (PySem.W.fnOf "is_zone" "is_zone" (defArgs s_is_zone) (defBody s_is_zone) (defScope s_is_zone) .none kV1 dc1 pm1 an1 cd1 ct1), sl1⟩)
    (c1 : PySem.W.codeIn K cd1 "is_zone" = true)
    (k1 : PySem.W.keepIn K (.ref f1) = true)
    (a2 : PySem.W.nsIn K mainGlobals "is_zones" = some (some (.ref f2)))
    (l2 : K.lookup f2 = some ⟨oc2, od2, .func (PySem.W.fnOf "is_zones" "is_zones" (defArgs s_is_zones) (defBody s_is_zones) (defScope s_is_zones) .none kV2 dc2 pm2 an2 cd2 ct2), sl2⟩)
    (c2 : PySem.W.codeIn K cd2 "is_zones" = true)
    (k2 : PySem.W.keepIn K (.ref f2) = true)
    (a3 : PySem.W.nsIn K mainGlobals "need_zones" = some (some (.ref f3)))
    (l3 : K.lookup f3 = some ⟨oc3, od3, .func (PySem.W.fnOf "need_zones" "need_zones" (defArgs s_need_zones) (defBody s_need_zones) (defScope s_need_zones) .none kV3 dc3 pm3 an3 cd3 ct3), sl3⟩)
    (c3 : PySem.W.codeIn K cd3 "need_zones" = true)
    (k3 : PySem.W.keepIn K (.ref f3) = true)
    (a4 : PySem.W.nsIn K mainGlobals "is_part" = some (some (.ref f4)))
    (l4 : K.lookup f4 = some ⟨oc4, od4, .func (PySem.W.fnOf "is_part" "is_part" (defArgs s_is_part) (defBody s_is_part) (defScope s_is_part) .none kV4 dc4 pm4 an4 cd4 ct4), sl4⟩)
    (c4 : PySem.W.codeIn K cd4 "is_part" = true)
    (k4 : PySem.W.keepIn K (.ref f4) = true)
    (a5 : PySem.W.nsIn K mainGlobals "is_step" = some (some (.ref f5)))
    (l5 : K.lookup f5 = some ⟨oc5, od5, .func (PySem.W.fnOf "is_step" "is_step" (defArgs s_is_step) (defBody s_is_step) (defScope s_is_step) .none kV5 dc5 pm5 an5 cd5 ct5), sl5⟩)
    (c5 : PySem.W.codeIn K cd5 "is_step" = true)
    (k5 : PySem.W.keepIn K (.ref f5) = true)
    (a6 : PySem.W.nsIn K mainGlobals "kind_made" = some (some (.ref f6)))
    (l6 : K.lookup f6 = some ⟨oc6, od6, .func (PySem.W.fnOf "kind_made" "kind_made" (defArgs s_kind_made) (defBody s_kind_made) (defScope s_kind_made) .none kV6 dc6 pm6 an6 cd6 ct6), sl6⟩)
    (c6 : PySem.W.codeIn K cd6 "kind_made" = true)
    (k6 : PySem.W.keepIn K (.ref f6) = true)
    (a7 : PySem.W.nsIn K mainGlobals "kinds_of" = some (some (.ref f7)))
    (l7 : K.lookup f7 = some ⟨oc7, od7, .func (PySem.W.fnOf "kinds_of" "kinds_of" (defArgs s_kinds_of) (defBody s_kinds_of) (defScope s_kinds_of) .none kV7 dc7 pm7 an7 cd7 ct7), sl7⟩)
    (c7 : PySem.W.codeIn K cd7 "kinds_of" = true)
    (k7 : PySem.W.keepIn K (.ref f7) = true)
    (a8 : PySem.W.nsIn K mainGlobals "is_program" = some (some (.ref f8)))
    (l8 : K.lookup f8 = some ⟨oc8, od8, .func (PySem.W.fnOf "is_program" "is_program" (defArgs s_is_program) (defBody s_is_program) (defScope s_is_program) .none kV8 dc8 pm8 an8 cd8 ct8), sl8⟩)
    (c8 : PySem.W.codeIn K cd8 "is_program" = true)
    (k8 : PySem.W.keepIn K (.ref f8) = true)
    (a9 : PySem.W.nsIn K mainGlobals "need_program" = some (some (.ref f9)))
    (l9 : K.lookup f9 = some ⟨oc9, od9, .func (PySem.W.fnOf "need_program" "need_program" (defArgs s_need_program) (defBody s_need_program) (defScope s_need_program) .none kV9 dc9 pm9 an9 cd9 ct9), sl9⟩)
    (c9 : PySem.W.codeIn K cd9 "need_program" = true)
    (k9 : PySem.W.keepIn K (.ref f9) = true)
    (a10 : PySem.W.nsIn K mainGlobals "is_hour" = some (some (.ref f10)))
    (l10 : K.lookup f10 = some ⟨oc10, od10, .func (PySem.W.fnOf "is_hour" "is_hour" (defArgs s_is_hour) (defBody s_is_hour) (defScope s_is_hour) .none kV10 dc10 pm10 an10 cd10 ct10), sl10⟩)
    (c10 : PySem.W.codeIn K cd10 "is_hour" = true)
    (k10 : PySem.W.keepIn K (.ref f10) = true)
    (a11 : PySem.W.nsIn K mainGlobals "wish_fits" = some (some (.ref f11)))
    (l11 : K.lookup f11 = some ⟨oc11, od11, .func (PySem.W.fnOf "wish_fits" "wish_fits" (defArgs s_wish_fits) (defBody s_wish_fits) (defScope s_wish_fits) .none kV11 dc11 pm11 an11 cd11 ct11), sl11⟩)
    (c11 : PySem.W.codeIn K cd11 "wish_fits" = true)
    (k11 : PySem.W.keepIn K (.ref f11) = true)
    (a12 : PySem.W.nsIn K mainGlobals "is_wish" = some (some (.ref f12)))
    (l12 : K.lookup f12 = some ⟨oc12, od12, .func (PySem.W.fnOf "is_wish" "is_wish" (defArgs s_is_wish) (defBody s_is_wish) (defScope s_is_wish) .none kV12 dc12 pm12 an12 cd12 ct12), sl12⟩)
    (c12 : PySem.W.codeIn K cd12 "is_wish" = true)
    (k12 : PySem.W.keepIn K (.ref f12) = true)
    (a13 : PySem.W.nsIn K mainGlobals "_law_make_pot" = some (some (.ref f13)))
    (l13 : K.lookup f13 = some ⟨oc13, od13, .func (PySem.W.fnOf "_law_make_pot" "_law_make_pot" (defArgs s__law_make_pot) (defBody s__law_make_pot) (defScope s__law_make_pot) .none kV13 dc13 pm13 an13 cd13 ct13), sl13⟩)
    (c13 : PySem.W.codeIn K cd13 "_law_make_pot" = true)
    (k13 : PySem.W.keepIn K (.ref f13) = true)
    (a14 : PySem.W.nsIn K mainGlobals "_law_pick" = some (some (.ref f14)))
    (l14 : K.lookup f14 = some ⟨oc14, od14, .func (PySem.W.fnOf "_law_pick" "_law_pick" (defArgs s__law_pick) (defBody s__law_pick) (defScope s__law_pick) .none kV14 dc14 pm14 an14 cd14 ct14), sl14⟩)
    (c14 : PySem.W.codeIn K cd14 "_law_pick" = true)
    (k14 : PySem.W.keepIn K (.ref f14) = true)
    (a15 : PySem.W.nsIn K mainGlobals "_law_cells" = some (some (.ref f15)))
    (l15 : K.lookup f15 = some ⟨oc15, od15, .func (PySem.W.fnOf "_law_cells" "_law_cells" (defArgs s__law_cells) (defBody s__law_cells) (defScope s__law_cells) .none kV15 dc15 pm15 an15 cd15 ct15), sl15⟩)
    (c15 : PySem.W.codeIn K cd15 "_law_cells" = true)
    (k15 : PySem.W.keepIn K (.ref f15) = true)
    (a16 : PySem.W.nsIn K mainGlobals "_law_whole" = some (some (.ref f16)))
    (l16 : K.lookup f16 = some ⟨oc16, od16, .func (PySem.W.fnOf "_law_whole" "_law_whole" (defArgs s__law_whole) (defBody s__law_whole) (defScope s__law_whole) .none kV16 dc16 pm16 an16 cd16 ct16), sl16⟩)
    (c16 : PySem.W.codeIn K cd16 "_law_whole" = true)
    (k16 : PySem.W.keepIn K (.ref f16) = true)
    (a17 : PySem.W.nsIn K mainGlobals "_law_draw_spot" = some (some (.ref f17)))
    (l17 : K.lookup f17 = some ⟨oc17, od17, .func (PySem.W.fnOf "_law_draw_spot" "_law_draw_spot" (defArgs s__law_draw_spot) (defBody s__law_draw_spot) (defScope s__law_draw_spot) .none kV17 dc17 pm17 an17 cd17 ct17), sl17⟩)
    (c17 : PySem.W.codeIn K cd17 "_law_draw_spot" = true)
    (k17 : PySem.W.keepIn K (.ref f17) = true)
    (a18 : PySem.W.nsIn K mainGlobals "_law_sort_behind" = some (some (.ref f18)))
    (l18 : K.lookup f18 = some ⟨oc18, od18, .func (PySem.W.fnOf "_law_sort_behind" "_law_sort_behind" (defArgs s__law_sort_behind) (defBody s__law_sort_behind) (defScope s__law_sort_behind) .none kV18 dc18 pm18 an18 cd18 ct18), sl18⟩)
    (c18 : PySem.W.codeIn K cd18 "_law_sort_behind" = true)
    (k18 : PySem.W.keepIn K (.ref f18) = true)
    (a19 : PySem.W.nsIn K mainGlobals "_law_kinds_in" = some (some (.ref f19)))
    (l19 : K.lookup f19 = some ⟨oc19, od19, .func (PySem.W.fnOf "_law_kinds_in" "_law_kinds_in" (defArgs s__law_kinds_in) (defBody s__law_kinds_in) (defScope s__law_kinds_in) .none kV19 dc19 pm19 an19 cd19 ct19), sl19⟩)
    (c19 : PySem.W.codeIn K cd19 "_law_kinds_in" = true)
    (k19 : PySem.W.keepIn K (.ref f19) = true)
    (a20 : PySem.W.nsIn K mainGlobals "_law_rule" = some (some (.ref f20)))
    (l20 : K.lookup f20 = some ⟨oc20, od20, .func (PySem.W.fnOf "_law_rule" "_law_rule" (defArgs s__law_rule) (defBody s__law_rule) (defScope s__law_rule) .none kV20 dc20 pm20 an20 cd20 ct20), sl20⟩)
    (c20 : PySem.W.codeIn K cd20 "_law_rule" = true)
    (k20 : PySem.W.keepIn K (.ref f20) = true)
    (a21 : PySem.W.nsIn K mainGlobals "_law_words_open" = some (some (.ref f21)))
    (l21 : K.lookup f21 = some ⟨oc21, od21, .func (PySem.W.fnOf "_law_words_open" "_law_words_open" (defArgs s__law_words_open) (defBody s__law_words_open) (defScope s__law_words_open) .none kV21 dc21 pm21 an21 cd21 ct21), sl21⟩)
    (c21 : PySem.W.codeIn K cd21 "_law_words_open" = true)
    (k21 : PySem.W.keepIn K (.ref f21) = true)
    (a22 : PySem.W.nsIn K mainGlobals "_law_draw_step" = some (some (.ref f22)))
    (l22 : K.lookup f22 = some ⟨oc22, od22, .func (PySem.W.fnOf "_law_draw_step" "_law_draw_step" (defArgs s__law_draw_step) (defBody s__law_draw_step) (defScope s__law_draw_step) .none kV22 dc22 pm22 an22 cd22 ct22), sl22⟩)
    (c22 : PySem.W.codeIn K cd22 "_law_draw_step" = true)
    (k22 : PySem.W.keepIn K (.ref f22) = true)
    (a23 : PySem.W.nsIn K mainGlobals "_law_draw_tale" = some (some (.ref f23)))
    (l23 : K.lookup f23 = some ⟨oc23, od23, .func (PySem.W.fnOf "_law_draw_tale" "_law_draw_tale" (defArgs s__law_draw_tale) (defBody s__law_draw_tale) (defScope s__law_draw_tale) .none kV23 dc23 pm23 an23 cd23 ct23), sl23⟩)
    (c23 : PySem.W.codeIn K cd23 "_law_draw_tale" = true)
    (k23 : PySem.W.keepIn K (.ref f23) = true)
    (a24 : PySem.W.nsIn K mainGlobals "_law_hours_in" = some (some (.ref f24)))
    (l24 : K.lookup f24 = some ⟨oc24, od24, .func (PySem.W.fnOf "_law_hours_in" "_law_hours_in" (defArgs s__law_hours_in) (defBody s__law_hours_in) (defScope s__law_hours_in) .none kV24 dc24 pm24 an24 cd24 ct24), sl24⟩)
    (c24 : PySem.W.codeIn K cd24 "_law_hours_in" = true)
    (k24 : PySem.W.keepIn K (.ref f24) = true)
    (a25 : PySem.W.nsIn K mainGlobals "_law_draw_shifts" = some (some (.ref f25)))
    (l25 : K.lookup f25 = some ⟨oc25, od25, .func (PySem.W.fnOf "_law_draw_shifts" "_law_draw_shifts" (defArgs s__law_draw_shifts) (defBody s__law_draw_shifts) (defScope s__law_draw_shifts) .none kV25 dc25 pm25 an25 cd25 ct25), sl25⟩)
    (c25 : PySem.W.codeIn K cd25 "_law_draw_shifts" = true)
    (k25 : PySem.W.keepIn K (.ref f25) = true)
    (a26 : PySem.W.nsIn K mainGlobals "_law_draw_apart" = some (some (.ref f26)))
    (l26 : K.lookup f26 = some ⟨oc26, od26, .func (PySem.W.fnOf "_law_draw_apart" "_law_draw_apart" (defArgs s__law_draw_apart) (defBody s__law_draw_apart) (defScope s__law_draw_apart) .none kV26 dc26 pm26 an26 cd26 ct26), sl26⟩)
    (c26 : PySem.W.codeIn K cd26 "_law_draw_apart" = true)
    (k26 : PySem.W.keepIn K (.ref f26) = true)
    (a27 : PySem.W.nsIn K mainGlobals "_law_draw_fields" = some (some (.ref f27)))
    (l27 : K.lookup f27 = some ⟨oc27, od27, .func (PySem.W.fnOf "_law_draw_fields" "_law_draw_fields" (defArgs s__law_draw_fields) (defBody s__law_draw_fields) (defScope s__law_draw_fields) .none kV27 dc27 pm27 an27 cd27 ct27), sl27⟩)
    (c27 : PySem.W.codeIn K cd27 "_law_draw_fields" = true)
    (k27 : PySem.W.keepIn K (.ref f27) = true)
    (a28 : PySem.W.nsIn K mainGlobals "_law_minutes" = some (some (.ref f28)))
    (l28 : K.lookup f28 = some ⟨oc28, od28, .func (PySem.W.fnOf "_law_minutes" "_law_minutes" (defArgs s__law_minutes) (defBody s__law_minutes) (defScope s__law_minutes) .none kV28 dc28 pm28 an28 cd28 ct28), sl28⟩)
    (c28 : PySem.W.codeIn K cd28 "_law_minutes" = true)
    (k28 : PySem.W.keepIn K (.ref f28) = true)
    (a29 : PySem.W.nsIn K mainGlobals "_law_draw_want" = some (some (.ref f29)))
    (l29 : K.lookup f29 = some ⟨oc29, od29, .func (PySem.W.fnOf "_law_draw_want" "_law_draw_want" (defArgs s__law_draw_want) (defBody s__law_draw_want) (defScope s__law_draw_want) .none kV29 dc29 pm29 an29 cd29 ct29), sl29⟩)
    (c29 : PySem.W.codeIn K cd29 "_law_draw_want" = true)
    (k29 : PySem.W.keepIn K (.ref f29) = true)
    (a30 : PySem.W.nsIn K mainGlobals "_law_is_want" = some (some (.ref f30)))
    (l30 : K.lookup f30 = some ⟨oc30, od30, .func (PySem.W.fnOf "_law_is_want" "_law_is_want" (defArgs s__law_is_want) (defBody s__law_is_want) (defScope s__law_is_want) .none kV30 dc30 pm30 an30 cd30 ct30), sl30⟩)
    (c30 : PySem.W.codeIn K cd30 "_law_is_want" = true)
    (k30 : PySem.W.keepIn K (.ref f30) = true)
    (a31 : PySem.W.nsIn K mainGlobals "_law_bend" = some (some (.ref f31)))
    (l31 : K.lookup f31 = some ⟨oc31, od31, .func (PySem.W.fnOf "_law_bend" "_law_bend" (defArgs s__law_bend) (defBody s__law_bend) (defScope s__law_bend) .none kV31 dc31 pm31 an31 cd31 ct31), sl31⟩)
    (c31 : PySem.W.codeIn K cd31 "_law_bend" = true)
    (k31 : PySem.W.keepIn K (.ref f31) = true)
    (a32 : PySem.W.nsIn K mainGlobals "_law_any_odd" = some (some (.ref f32)))
    (l32 : K.lookup f32 = some ⟨oc32, od32, .func (PySem.W.fnOf "_law_any_odd" "_law_any_odd" (defArgs s__law_any_odd) (defBody s__law_any_odd) (defScope s__law_any_odd) .none kV32 dc32 pm32 an32 cd32 ct32), sl32⟩)
    (c32 : PySem.W.codeIn K cd32 "_law_any_odd" = true)
    (k32 : PySem.W.keepIn K (.ref f32) = true)
    (a33 : PySem.W.nsIn K mainGlobals "_law_tells" = some (some (.ref f33)))
    (l33 : K.lookup f33 = some ⟨oc33, od33, .func (PySem.W.fnOf "_law_tells" "_law_tells" (defArgs s__law_tells) (defBody s__law_tells) (defScope s__law_tells) .none kV33 dc33 pm33 an33 cd33 ct33), sl33⟩)
    (c33 : PySem.W.codeIn K cd33 "_law_tells" = true)
    (k33 : PySem.W.keepIn K (.ref f33) = true)
    (a34 : PySem.W.nsIn K mainGlobals "_law_asked" = some (some (.ref f34)))
    (l34 : K.lookup f34 = some ⟨oc34, od34, .func (PySem.W.fnOf "_law_asked" "_law_asked" (defArgs s__law_asked) (defBody s__law_asked) (defScope s__law_asked) .none kV34 dc34 pm34 an34 cd34 ct34), sl34⟩)
    (c34 : PySem.W.codeIn K cd34 "_law_asked" = true)
    (k34 : PySem.W.keepIn K (.ref f34) = true)
    (a35 : PySem.W.nsIn K mainGlobals "_law_right" = some (some (.ref f35)))
    (l35 : K.lookup f35 = some ⟨oc35, od35, .func (PySem.W.fnOf "_law_right" "_law_right" (defArgs s__law_right) (defBody s__law_right) (defScope s__law_right) .none kV35 dc35 pm35 an35 cd35 ct35), sl35⟩)
    (c35 : PySem.W.codeIn K cd35 "_law_right" = true)
    (k35 : PySem.W.keepIn K (.ref f35) = true)
    (a36 : PySem.W.nsIn K mainGlobals "law" = some (some (.ref f36)))
    (l36 : K.lookup f36 = some ⟨oc36, od36, .func (PySem.W.fnOf "law" "law" (defArgs s_law) (defBody s_law) (defScope s_law) .none kV36 dc36 pm36 an36 cd36 ct36), sl36⟩)
    (c36 : PySem.W.codeIn K cd36 "law" = true)
    (k36 : PySem.W.keepIn K (.ref f36) = true)
    (z0 : PySem.W.nsIn K mainGlobals "all" = some none)
    (z1 : PySem.W.nsIn K mainGlobals "bool" = some none)
    (z2 : PySem.W.nsIn K mainGlobals "enumerate" = some none)
    (z3 : PySem.W.nsIn K mainGlobals "int" = some none)
    (z4 : PySem.W.nsIn K mainGlobals "isinstance" = some none)
    (z5 : PySem.W.nsIn K mainGlobals "len" = some none)
    (z6 : PySem.W.nsIn K mainGlobals "list" = some none)
    (z7 : PySem.W.nsIn K mainGlobals "max" = some none)
    (z8 : PySem.W.nsIn K mainGlobals "min" = some none)
    (z9 : PySem.W.nsIn K mainGlobals "range" = some none)
    (z10 : PySem.W.nsIn K mainGlobals "repr" = some none)
    (z11 : PySem.W.nsIn K mainGlobals "str" = some none)
    (z12 : PySem.W.nsIn K mainGlobals "tuple" = some none)
    (v0 : PySem.W.nsIn K mainGlobals "FOLDS" = some (some (.ref Q0_1)))
    (q0_1 : K.lookup Q0_1 = some ⟨.type "tuple", none, .seq #[(.str "early" tQ0_2), (.str "late" tQ0_3), (.str "refuse" tQ0_4)] nQ0_1, sQ0_1⟩)
    (v1 : PySem.W.nsIn K mainGlobals "GAPS" = some (some (.ref Q1_1)))
    (q1_1 : K.lookup Q1_1 = some ⟨.type "tuple", none, .seq #[(.str "ahead" tQ1_2), (.str "behind" tQ1_3), (.str "refuse" tQ1_4)] nQ1_1, sQ1_1⟩)
    (v2 : PySem.W.nsIn K mainGlobals "MADE" = some (some (.ref Q2_t)))
    (tb2 : K.lookup Q2_t = some ⟨.type "dict", none, .dict #[⟨hQ2_0, (.str "read" uQ2_0), (.str "reading" tQ2_1)⟩, ⟨hQ2_1, (.str "find" uQ2_1), (.str "moment" tQ2_2)⟩, ⟨hQ2_2, (.str "offset" uQ2_2), (.str "span" tQ2_3)⟩, ⟨hQ2_3, (.str "edition" uQ2_3), (.str "moment" tQ2_4)⟩, ⟨hQ2_4, (.str "plus" uQ2_4), (.str "reading" tQ2_5)⟩, ⟨hQ2_5, (.str "less" uQ2_5), (.str "moment" tQ2_6)⟩] nQ2_t, #[]⟩)
    (hs2_0 : hQ2_0 = PyData.keyHash w.params "read")
    (hs2_1 : hQ2_1 = PyData.keyHash w.params "find")
    (hs2_2 : hQ2_2 = PyData.keyHash w.params "offset")
    (hs2_3 : hQ2_3 = PyData.keyHash w.params "edition")
    (hs2_4 : hQ2_4 = PyData.keyHash w.params "plus")
    (hs2_5 : hQ2_5 = PyData.keyHash w.params "less")
    (lw2 : (Q2_t == sysModules) = false)
    (v3 : PySem.W.nsIn K mainGlobals "MOST_APART" = some (some (.int (1000000) t3)))
    (v4 : PySem.W.nsIn K mainGlobals "MOST_MINUTES" = some (some (.int (100000) t4)))
    (v5 : PySem.W.nsIn K mainGlobals "MOST_OFFSET" = some (some (.int (900) t5)))
    (v6 : PySem.W.nsIn K mainGlobals "MOST_SPACING" = some (some (.int (1000000) t6)))
    (v7 : PySem.W.nsIn K mainGlobals "MOST_STEPS" = some (some (.int (8) t7)))
    (v8 : PySem.W.nsIn K mainGlobals "PARTS" = some (some (.ref Q8_t)))
    (tb8 : K.lookup Q8_t = some ⟨.type "dict", none, .dict #[⟨hQ8_0, (.str "read" uQ8_0), (.ref Q8_1)⟩, ⟨hQ8_1, (.str "find" uQ8_1), (.ref Q8_4)⟩, ⟨hQ8_2, (.str "offset" uQ8_2), (.ref Q8_9)⟩, ⟨hQ8_3, (.str "edition" uQ8_3), (.ref Q8_12)⟩, ⟨hQ8_4, (.str "plus" uQ8_4), (.ref Q8_15)⟩, ⟨hQ8_5, (.str "less" uQ8_5), (.ref Q8_18)⟩, ⟨hQ8_6, (.str "add" uQ8_6), (.ref Q8_21)⟩] nQ8_t, #[]⟩)
    (hs8_0 : hQ8_0 = PyData.keyHash w.params "read")
    (hs8_1 : hQ8_1 = PyData.keyHash w.params "find")
    (hs8_2 : hQ8_2 = PyData.keyHash w.params "offset")
    (hs8_3 : hQ8_3 = PyData.keyHash w.params "edition")
    (hs8_4 : hQ8_4 = PyData.keyHash w.params "plus")
    (hs8_5 : hQ8_5 = PyData.keyHash w.params "less")
    (hs8_6 : hQ8_6 = PyData.keyHash w.params "add")
    (lw8 : (Q8_t == sysModules) = false)
    (q8_1 : K.lookup Q8_1 = some ⟨.type "tuple", none, .seq #[(.str "moment" tQ8_2), (.str "place" tQ8_3)] nQ8_1, sQ8_1⟩)
    (q8_4 : K.lookup Q8_4 = some ⟨.type "tuple", none, .seq #[(.str "reading" tQ8_5), (.str "place" tQ8_6), (.str "fold" tQ8_7), (.str "gap" tQ8_8)] nQ8_4, sQ8_4⟩)
    (q8_9 : K.lookup Q8_9 = some ⟨.type "tuple", none, .seq #[(.str "moment" tQ8_10), (.str "place" tQ8_11)] nQ8_9, sQ8_9⟩)
    (q8_12 : K.lookup Q8_12 = some ⟨.type "tuple", none, .seq #[(.str "moment" tQ8_13), (.str "place" tQ8_14)] nQ8_12, sQ8_12⟩)
    (q8_15 : K.lookup Q8_15 = some ⟨.type "tuple", none, .seq #[(.str "moment" tQ8_16), (.str "span" tQ8_17)] nQ8_15, sQ8_15⟩)
    (q8_18 : K.lookup Q8_18 = some ⟨.type "tuple", none, .seq #[(.str "reading" tQ8_19), (.str "span" tQ8_20)] nQ8_18, sQ8_18⟩)
    (q8_21 : K.lookup Q8_21 = some ⟨.type "tuple", none, .seq #[(.str "point" tQ8_22), (.str "minutes" tQ8_23)] nQ8_21, sQ8_21⟩)
    (v9 : PySem.W.nsIn K mainGlobals "WISH_SLOTS" = some (some (.ref Q9_t)))
    (tb9 : K.lookup Q9_t = some ⟨.type "dict", none, .dict #[⟨hQ9_0, (.str "found" uQ9_0), (.ref Q9_1)⟩, ⟨hQ9_1, (.str "same" uQ9_1), (.ref Q9_2)⟩, ⟨hQ9_2, (.str "order" uQ9_2), (.ref Q9_5)⟩, ⟨hQ9_3, (.str "near" uQ9_3), (.ref Q9_8)⟩] nQ9_t, #[]⟩)
    (hs9_0 : hQ9_0 = PyData.keyHash w.params "found")
    (hs9_1 : hQ9_1 = PyData.keyHash w.params "same")
    (hs9_2 : hQ9_2 = PyData.keyHash w.params "order")
    (hs9_3 : hQ9_3 = PyData.keyHash w.params "near")
    (lw9 : (Q9_t == sysModules) = false)
    (q9_1 : K.lookup Q9_1 = some ⟨.type "tuple", none, .seq #[] nQ9_1, sQ9_1⟩)
    (q9_2 : K.lookup Q9_2 = some ⟨.type "tuple", none, .seq #[(.str "point" tQ9_3), (.str "point" tQ9_4)] nQ9_2, sQ9_2⟩)
    (q9_5 : K.lookup Q9_5 = some ⟨.type "tuple", none, .seq #[(.str "point" tQ9_6), (.str "point" tQ9_7)] nQ9_5, sQ9_5⟩)
    (q9_8 : K.lookup Q9_8 = some ⟨.type "tuple", none, .seq #[(.str "point" tQ9_9), (.str "point" tQ9_10), (.str "most" tQ9_11)] nQ9_8, sQ9_8⟩)
    (xa0 : PySem.W.nsIn K mainGlobals "HourError" = some (some (.ref C0)))
    (xq0 : PySem.W.excIn K C0 [.type "ValueError", .type "Exception", .type "BaseException", .type "object"] "ValueError.__new__" = true)
    (xk0 : PySem.W.keepIn K (.ref C0) = true)
    (xb0 : PySem.W.subIn K (.ref C0) (.type "BaseException") = some true)
    (xt0 : PySem.W.typeIn K (.ref C0) = some (.type "type"))
    (xa1 : PySem.W.nsIn K mainGlobals "InvalidProgram" = some (some (.ref C1)))
    (xq1 : PySem.W.excIn K C1 [.type "ValueError", .type "Exception", .type "BaseException", .type "object"] "ValueError.__new__" = true)
    (xk1 : PySem.W.keepIn K (.ref C1) = true)
    (xb1 : PySem.W.subIn K (.ref C1) (.type "BaseException") = some true)
    (xt1 : PySem.W.typeIn K (.ref C1) = some (.type "type"))
    (xa2 : PySem.W.nsIn K mainGlobals "InvalidZones" = some (some (.ref C2)))
    (xq2 : PySem.W.excIn K C2 [.type "ValueError", .type "Exception", .type "BaseException", .type "object"] "ValueError.__new__" = true)
    (xk2 : PySem.W.keepIn K (.ref C2) = true)
    (xb2 : PySem.W.subIn K (.ref C2) (.type "BaseException") = some true)
    (xt2 : PySem.W.typeIn K (.ref C2) = some (.type "type"))
    (xf0 : PySem.W.findIn K (.ref C0) "__getattribute__" = some (some (.builtin "BaseException.__getattribute__")))
    (xf1 : PySem.W.findIn K (.ref C0) "__getattr__" = some none)
    (xf2 : PySem.W.hasDictIn K C0 = true)
    (xf3 : PySem.W.findIn K (.ref C0) "__class__" = some (some (.builtin "object.__class__")))
    (xf4 : PySem.W.specialIn K (.builtin "object.__class__") "__get__" = some (some (.builtin "getset_descriptor.__get__")))
    (xf5 : PySem.W.takesIn K (.builtin "object.__class__") = some true)
    (xf6 : PySem.W.mroIn K C0 (.type "object") = some true)
    (xf7 : PySem.W.mroIn K C0 (.type "tuple") = some false)
    (xf8 : PySem.W.mroIn K C0 (.type "list") = some false)
    (xf9 : PySem.W.mroIn K C0 (.type "int") = some false)
    (xf10 : PySem.W.mroIn K C0 (.type "str") = some false)
    (xf11 : PySem.W.mroIn K C0 (.type "bool") = some false)
    (xf12 : PySem.W.mroIn K C0 (.type "dict") = some false)
    (xa3 : PySem.W.nsIn K mainGlobals "Refused" = some (some (.ref C3)))
    (xf13 : PySem.W.findIn K (.ref C3) "__getattribute__" = some (some (.builtin "BaseException.__getattribute__")))
    (xf14 : PySem.W.findIn K (.ref C3) "__getattr__" = some none)
    (xf15 : PySem.W.subIn K (.ref C3) (.type "BaseException") = some true)
    (xf16 : PySem.W.hasDictIn K C3 = true)
    (xf17 : PySem.W.findIn K (.ref C3) "__class__" = some (some (.builtin "object.__class__")))
    (xf18 : PySem.W.mroIn K C3 (.type "object") = some true)
    (xf19 : PySem.W.mroIn K C3 (.type "tuple") = some false)
    (xf20 : PySem.W.mroIn K C3 (.type "list") = some false)
    (xf21 : PySem.W.mroIn K C3 (.type "int") = some false)
    (xf22 : PySem.W.mroIn K C3 (.type "str") = some false)
    (xf23 : PySem.W.mroIn K C3 (.type "bool") = some false)
    (xf24 : PySem.W.mroIn K C3 (.type "dict") = some false)
    (xf25 : PySem.W.clsIn K C0 = some cdN0)
    (rbN0 : excReprHead cdN0.name.toString = "HourError")
    (xf26 : PySem.W.findIn K (.ref C0) "__repr__" = some (some (.builtin "BaseException.__repr__")))
    (xf27 : PySem.W.clsIn K C3 = some cdN3)
    (rbN3 : excReprHead cdN3.name.toString = "Refused")
    (xf28 : PySem.W.findIn K (.ref C3) "__repr__" = some (some (.builtin "BaseException.__repr__")))
    (xL3 : K.lookup C3 = some (excClassObj nm_3 q_3 C3 N_3 bs_3 bm_3 true sn_3 sub_3 ab_3 col_3 dd_3 m0_3 m1_3 m2_3 m3_3 m5_3 "ValueError.__new__"))
    (rb3 : PySem.HandSPX.refsVE bm_3 = true)
    (xf29 : PySem.W.findIn K (.ref C3) "__init__" = some (some (.ref fI_3)))
    (xf30 : PySem.W.typeIn K (.ref fI_3) = some (.type "function"))
    (lI3 : K.lookup fI_3 = some ⟨oI_3, odI_3, .func (PySem.W.fnOf "__init__" "Refused.__init__" (defArgs si_Refused) (defBody si_Refused) (defScope si_Refused) .none kVI_3 dcI_3 pmI_3 anI_3 cdI_3 ctI_3), slI_3⟩)
    (cI3 : PySem.W.codeIn K cdI_3 "Refused.__init__" = true)
    (xf31 : PySem.W.keepIn K (.ref fI_3) = true)
    (xf32 : PySem.W.findIn K (.ref C3) "step" = some none)
    (xf33 : PySem.W.readsIn K C0 (.type "type") = true)
    (xf34 : PySem.W.specialIn K (.ref C0) "__getattribute__" = some (some (.builtin "type.__getattribute__")))
    (xf35 : PySem.W.findCls K (.ref C0) (.type "type") "__init__" = some (.val (.builtin "ValueError.__init__")))
    (xf36 : PySem.W.findIn K (.ref C3) "__setattr__" = some (some (.builtin "object.__setattr__")))
    (xf37 : PySem.W.typeIn K (.ref C3) = some (.type "type"))
    (xf38 : PySem.W.keepIn K (.ref C3) = true) :
    ∃ fd : FuncData, (∀ (s : Shared) (v : Value), BindsTo s fd ⟨[v], []⟩ [("_law_script", v)]) ∧ ∀ base : Heap, K.In base → base.Ns mainGlobals mg → FnG l.prog w K mg base (L2.CX l.prog w) 10 fa fd ["_law_script"] (spLaw K) := by
  have e := hfa.symm.trans (PySem.W.mg_of X G a36)
  cases e
  have T : Txt K mg w := ⟨PySem.W.mg_none_of X G z0, PySem.W.mg_none_of X G z1, PySem.W.mg_none_of X G z2, PySem.W.mg_none_of X G z3, PySem.W.mg_none_of X G z4, PySem.W.mg_none_of X G z5, PySem.W.mg_none_of X G z6, PySem.W.mg_none_of X G z7, PySem.W.mg_none_of X G z8, PySem.W.mg_none_of X G z9, PySem.W.mg_none_of X G z10, PySem.W.mg_none_of X G z11, PySem.W.mg_none_of X G z12, ⟨_, _, PySem.W.mg_of X G v0, rvR, (.tup (kt_mk q0_1 (Nat.le_of_ble_eq_true rfl) (.cons rvS (.cons rvS (.cons rvS .nil)))) (.cons (.str _) (.cons (.str _) (.cons (.str _) .nil))))⟩, ⟨_, _, PySem.W.mg_of X G v1, rvR, (.tup (kt_mk q1_1 (Nat.le_of_ble_eq_true rfl) (.cons rvS (.cons rvS (.cons rvS .nil)))) (.cons (.str _) (.cons (.str _) (.cons (.str _) .nil))))⟩, ⟨_, _, _, PySem.W.mg_of X G v2, tb2, lw2, (.cons rfl hs2_0 rvS (.str _) (.cons rfl hs2_1 rvS (.str _) (.cons rfl hs2_2 rvS (.str _) (.cons rfl hs2_3 rvS (.str _) (.cons rfl hs2_4 rvS (.str _) (.cons rfl hs2_5 rvS (.str _) .nil))))))⟩, ⟨t3, PySem.W.mg_of X G v3⟩, ⟨t4, PySem.W.mg_of X G v4⟩, ⟨t5, PySem.W.mg_of X G v5⟩, ⟨t6, PySem.W.mg_of X G v6⟩, ⟨t7, PySem.W.mg_of X G v7⟩, ⟨_, _, _, PySem.W.mg_of X G v8, tb8, lw8, (.cons rfl hs8_0 rvR (.tup (kt_mk q8_1 (Nat.le_of_ble_eq_true rfl) (.cons rvS (.cons rvS .nil))) (.cons (.str _) (.cons (.str _) .nil))) (.cons rfl hs8_1 rvR (.tup (kt_mk q8_4 (Nat.le_of_ble_eq_true rfl) (.cons rvS (.cons rvS (.cons rvS (.cons rvS .nil))))) (.cons (.str _) (.cons (.str _) (.cons (.str _) (.cons (.str _) .nil))))) (.cons rfl hs8_2 rvR (.tup (kt_mk q8_9 (Nat.le_of_ble_eq_true rfl) (.cons rvS (.cons rvS .nil))) (.cons (.str _) (.cons (.str _) .nil))) (.cons rfl hs8_3 rvR (.tup (kt_mk q8_12 (Nat.le_of_ble_eq_true rfl) (.cons rvS (.cons rvS .nil))) (.cons (.str _) (.cons (.str _) .nil))) (.cons rfl hs8_4 rvR (.tup (kt_mk q8_15 (Nat.le_of_ble_eq_true rfl) (.cons rvS (.cons rvS .nil))) (.cons (.str _) (.cons (.str _) .nil))) (.cons rfl hs8_5 rvR (.tup (kt_mk q8_18 (Nat.le_of_ble_eq_true rfl) (.cons rvS (.cons rvS .nil))) (.cons (.str _) (.cons (.str _) .nil))) (.cons rfl hs8_6 rvR (.tup (kt_mk q8_21 (Nat.le_of_ble_eq_true rfl) (.cons rvS (.cons rvS .nil))) (.cons (.str _) (.cons (.str _) .nil))) .nil)))))))⟩, ⟨_, _, _, PySem.W.mg_of X G v9, tb9, lw9, (.cons rfl hs9_0 rvR (.tup (kt_mk q9_1 (Nat.le_of_ble_eq_true rfl) .nil) .nil) (.cons rfl hs9_1 rvR (.tup (kt_mk q9_2 (Nat.le_of_ble_eq_true rfl) (.cons rvS (.cons rvS .nil))) (.cons (.str _) (.cons (.str _) .nil))) (.cons rfl hs9_2 rvR (.tup (kt_mk q9_5 (Nat.le_of_ble_eq_true rfl) (.cons rvS (.cons rvS .nil))) (.cons (.str _) (.cons (.str _) .nil))) (.cons rfl hs9_3 rvR (.tup (kt_mk q9_8 (Nat.le_of_ble_eq_true rfl) (.cons rvS (.cons rvS (.cons rvS .nil)))) (.cons (.str _) (.cons (.str _) (.cons (.str _) .nil)))) .nil))))⟩, ⟨C0, PySem.W.mg_of X G xa0, xq0, xk0, xb0, xt0⟩, ⟨C1, PySem.W.mg_of X G xa1, xq1, xk1, xb1, xt1⟩, ⟨C2, PySem.W.mg_of X G xa2, xq2, xk2, xb2, xt2⟩, ⟨(List.forall_mem_cons.mpr ⟨⟨_, (PySem.W.mg_of X G xa0), C0, rfl, ⟨xf0, xf1, xb0, xf2, xf3, xf4, xf5, xf6⟩, (List.forall_mem_cons.mpr ⟨(kit_plain (by decide +kernel) xf7), (List.forall_mem_cons.mpr ⟨(kit_plain (by decide +kernel) xf8), (List.forall_mem_cons.mpr ⟨(kit_plain (by decide +kernel) xf9), (List.forall_mem_cons.mpr ⟨(kit_plain (by decide +kernel) xf10), (List.forall_mem_cons.mpr ⟨(kit_plain (by decide +kernel) xf11), (List.forall_mem_cons.mpr ⟨(kit_plain (by decide +kernel) xf12), (fun _ z => absurd z List.not_mem_nil)⟩)⟩)⟩)⟩)⟩)⟩)⟩, (fun _ z => absurd z List.not_mem_nil)⟩)⟩, ⟨(List.forall_mem_cons.mpr ⟨⟨_, (PySem.W.mg_of X G xa3), C3, rfl, ⟨xf13, xf14, xf15, xf16, xf17, xf4, xf5, xf18⟩, (List.forall_mem_cons.mpr ⟨(kit_plain (by decide +kernel) xf19), (List.forall_mem_cons.mpr ⟨(kit_plain (by decide +kernel) xf20), (List.forall_mem_cons.mpr ⟨(kit_plain (by decide +kernel) xf21), (List.forall_mem_cons.mpr ⟨(kit_plain (by decide +kernel) xf22), (List.forall_mem_cons.mpr ⟨(kit_plain (by decide +kernel) xf23), (List.forall_mem_cons.mpr ⟨(kit_plain (by decide +kernel) xf24), (fun _ z => absurd z List.not_mem_nil)⟩)⟩)⟩)⟩)⟩)⟩)⟩, (fun _ z => absurd z List.not_mem_nil)⟩)⟩, ⟨(List.forall_mem_cons.mpr ⟨⟨C0, (PySem.W.mg_of X G xa0), ⟨⟨_, xf25, rbN0⟩, xf26, xb0⟩⟩, (List.forall_mem_cons.mpr ⟨⟨C3, (PySem.W.mg_of X G xa3), ⟨⟨_, xf27, rbN3⟩, xf28, xf15⟩⟩, (fun _ z => absurd z List.not_mem_nil)⟩)⟩)⟩⟩
  have F0 := fun_mk (st := s_is_integer) l0 c0 k0
  have F1 := fun_mk (st := s_is_zone) l1 c1 k1
  have F2 := fun_mk (st := s_is_zones) l2 c2 k2
  have F3 := fun_mk (st := s_need_zones) l3 c3 k3
  have F4 := fun_mk (st := s_is_part) l4 c4 k4
  have F5 := fun_mk (st := s_is_step) l5 c5 k5
  have F6 := fun_mk (st := s_kind_made) l6 c6 k6
  have F7 := fun_mk (st := s_kinds_of) l7 c7 k7
  have F8 := fun_mk (st := s_is_program) l8 c8 k8
  have F9 := fun_mk (st := s_need_program) l9 c9 k9
  have F10 := fun_mk (st := s_is_hour) l10 c10 k10
  have F11 := fun_mk (st := s_wish_fits) l11 c11 k11
  have F12 := fun_mk (st := s_is_wish) l12 c12 k12
  have F13 := fun_mk (st := s__law_make_pot) l13 c13 k13
  have F14 := fun_mk (st := s__law_pick) l14 c14 k14
  have F15 := fun_mk (st := s__law_cells) l15 c15 k15
  have F16 := fun_mk (st := s__law_whole) l16 c16 k16
  have F17 := fun_mk (st := s__law_draw_spot) l17 c17 k17
  have F18 := fun_mk (st := s__law_sort_behind) l18 c18 k18
  have F19 := fun_mk (st := s__law_kinds_in) l19 c19 k19
  have F20 := fun_mk (st := s__law_rule) l20 c20 k20
  have F21 := fun_mk (st := s__law_words_open) l21 c21 k21
  have F22 := fun_mk (st := s__law_draw_step) l22 c22 k22
  have F23 := fun_mk (st := s__law_draw_tale) l23 c23 k23
  have F24 := fun_mk (st := s__law_hours_in) l24 c24 k24
  have F25 := fun_mk (st := s__law_draw_shifts) l25 c25 k25
  have F26 := fun_mk (st := s__law_draw_apart) l26 c26 k26
  have F27 := fun_mk (st := s__law_draw_fields) l27 c27 k27
  have F28 := fun_mk (st := s__law_minutes) l28 c28 k28
  have F29 := fun_mk (st := s__law_draw_want) l29 c29 k29
  have F30 := fun_mk (st := s__law_is_want) l30 c30 k30
  have F31 := fun_mk (st := s__law_bend) l31 c31 k31
  have F32 := fun_mk (st := s__law_any_odd) l32 c32 k32
  have F33 := fun_mk (st := s__law_tells) l33 c33 k33
  have F34 := fun_mk (st := s__law_asked) l34 c34 k34
  have F35 := fun_mk (st := s__law_right) l35 c35 k35
  have F36 := fun_mk (st := s_law) l36 c36 k36
  refine ⟨PySem.W.fnOf "law" "law" (defArgs s_law) (defBody s_law) (defScope s_law) .none kV36 dc36 pm36 an36 cd36 ct36, fun s v => .of_eq rfl, fun base _ _ => ?_⟩
  have HI_Refused : HiOk K mg "HourError" := ⟨C0, .type "type", (PySem.W.mg_of X G xa0), xf33, xf34, xf35⟩
  have FI_Refused := fun_mk (st := si_Refused) lI3 cI3 xf31
  have GI_Refused : XiOkT l.prog w K mg base 1 "Refused" ["step"] "a find is refused" := xi_mk1T (msg := "a find is refused") (PySem.W.mg_of X G xa3) ⟨⟨_, _, _, _, _, _, _, _, _, _, _, _, _, _, _, xL3, rb3⟩, xf36, xf15, xf37, xf38⟩ xf29 xf30 FI_Refused (FI_Refused.binds fun _ _ _ _ _ _ us hl => match us, hl with | [_, _], _ => rfl) sci_Refused xf32 (fun cdv A outer s H E => pss_cons (ps_expr (pe_hinitT rfl HI_Refused (pa_cons (pv 0) (pa_cons pe_str pa_nil)))) (pss_one (ps_ostT (pv 0) (pv 1))))
  have G_is_integer := fn_is_integer (P := l.prog) (w := w) (base := base) T (PySem.W.mg_of X G a0) F0
  have G_is_zone := fn_is_zone (P := l.prog) (w := w) (base := base) T (PySem.W.mg_of X G a1) F1  G_is_integer
  have G_is_zones := fn_is_zones (P := l.prog) (w := w) (base := base) T (PySem.W.mg_of X G a2) F2  G_is_zone
  have G_need_zones := fn_need_zones (P := l.prog) (w := w) (base := base) T (PySem.W.mg_of X G a3) F3  G_is_zones
  have G_is_part := fn_is_part (P := l.prog) (w := w) (base := base) T (PySem.W.mg_of X G a4) F4  G_is_integer
  have G_is_step := fn_is_step (P := l.prog) (w := w) (base := base) T (PySem.W.mg_of X G a5) F5  G_is_part
  have G_kind_made := fn_kind_made (P := l.prog) (w := w) (base := base) T (PySem.W.mg_of X G a6) F6
  have G_kinds_of := fn_kinds_of (P := l.prog) (w := w) (base := base) T (PySem.W.mg_of X G a7) F7  G_kind_made
  have G_is_program := fn_is_program (P := l.prog) (w := w) (base := base) T (PySem.W.mg_of X G a8) F8  G_kind_made G_is_step G_need_zones
  have G_need_program := fn_need_program (P := l.prog) (w := w) (base := base) T (PySem.W.mg_of X G a9) F9  G_is_program
  have G_is_hour := fn_is_hour (P := l.prog) (w := w) (base := base) T (PySem.W.mg_of X G a10) F10  G_is_integer
  have G_wish_fits := fn_wish_fits (P := l.prog) (w := w) (base := base) T (PySem.W.mg_of X G a11) F11  G_is_integer G_is_hour G_kinds_of
  have G_is_wish := fn_is_wish (P := l.prog) (w := w) (base := base) T (PySem.W.mg_of X G a12) F12  G_wish_fits G_need_program G_need_zones
  have G__law_make_pot := fn__law_make_pot (P := l.prog) (w := w) (base := base) T (PySem.W.mg_of X G a13) F13
  have G__law_pick := fn__law_pick (P := l.prog) (w := w) (base := base) T (PySem.W.mg_of X G a14) F14
  have G__law_cells := fn__law_cells (P := l.prog) (w := w) (base := base) T (PySem.W.mg_of X G a15) F15
  have G__law_whole := fn__law_whole (P := l.prog) (w := w) (base := base) T (PySem.W.mg_of X G a16) F16
  have G__law_draw_spot := fn__law_draw_spot (P := l.prog) (w := w) (base := base) T (PySem.W.mg_of X G a17) F17  G__law_pick
  have G__law_sort_behind := fn__law_sort_behind (P := l.prog) (w := w) (base := base) T (PySem.W.mg_of X G a18) F18
  have G__law_kinds_in := fn__law_kinds_in (P := l.prog) (w := w) (base := base) T (PySem.W.mg_of X G a19) F19  G__law_sort_behind
  have G__law_rule := fn__law_rule (P := l.prog) (w := w) (base := base) T (PySem.W.mg_of X G a20) F20  G__law_pick
  have G__law_words_open := fn__law_words_open (P := l.prog) (w := w) (base := base) T (PySem.W.mg_of X G a21) F21
  have G__law_draw_step := fn__law_draw_step (P := l.prog) (w := w) (base := base) T (PySem.W.mg_of X G a22) F22  G__law_pick G__law_rule G__law_draw_spot
  have G__law_draw_tale := fn__law_draw_tale (P := l.prog) (w := w) (base := base) T (PySem.W.mg_of X G a23) F23  G__law_sort_behind G__law_draw_step G__law_words_open G__law_kinds_in
  have G__law_hours_in := fn__law_hours_in (P := l.prog) (w := w) (base := base) T (PySem.W.mg_of X G a24) F24  G__law_kinds_in
  have G__law_draw_shifts := fn__law_draw_shifts (P := l.prog) (w := w) (base := base) T (PySem.W.mg_of X G a25) F25  G__law_pick
  have G__law_draw_apart := fn__law_draw_apart (P := l.prog) (w := w) (base := base) T (PySem.W.mg_of X G a26) F26  G__law_pick
  have G__law_draw_fields := fn__law_draw_fields (P := l.prog) (w := w) (base := base) T (PySem.W.mg_of X G a27) F27  G__law_pick G__law_draw_apart G__law_draw_shifts
  have G__law_minutes := fn__law_minutes (P := l.prog) (w := w) (base := base) T (PySem.W.mg_of X G a28) F28  G__law_pick
  have G__law_draw_want := fn__law_draw_want (P := l.prog) (w := w) (base := base) T (PySem.W.mg_of X G a29) F29  G__law_pick
  have G__law_is_want := fn__law_is_want (P := l.prog) (w := w) (base := base) T (PySem.W.mg_of X G a30) F30  G__law_whole
  have G__law_bend := fn__law_bend (P := l.prog) (w := w) (base := base) T (PySem.W.mg_of X G a31) F31  G__law_pick
  have G__law_any_odd := fn__law_any_odd (P := l.prog) (w := w) (base := base) T (PySem.W.mg_of X G a32) F32  G__law_pick GI_Refused
  have G__law_tells := fn__law_tells (P := l.prog) (w := w) (base := base) T (PySem.W.mg_of X G a33) F33
  have G__law_asked := fn__law_asked (P := l.prog) (w := w) (base := base) T (PySem.W.mg_of X G a34) F34  G__law_tells G__law_is_want G_is_wish
  have G__law_right := fn__law_right (P := l.prog) (w := w) (base := base) T (PySem.W.mg_of X G a35) F35  G__law_asked G__law_bend G__law_any_odd G_is_wish G__law_draw_want G__law_hours_in G__law_kinds_in G__law_draw_tale G__law_minutes G__law_pick G__law_draw_fields
  have G_law := fn_law (P := l.prog) (w := w) (base := base) T (PySem.W.mg_of X G a36) F36  G__law_right G__law_make_pot G__law_cells
  exact law_okG (PySem.W.mg_of X G a36) F36 G_law hlaw
theorem walk {l : PySem.W.OpenLaw} {q : Program} {loose : List Str} {XP : (Str → Option Value) → Heap → Prop} {YP : World → Heap → Prop} {d : DefRec} {K : Params → Frag} (hn : l.most = some 63) (hdf : d.params.defaults = [])
    (hY : ∀ (w : World) (h : Heap), YP w h → (K w.params).In h)
    (F : ∀ (w : World) (mg : Str → Option Value) (fa : Addr) (h : Heap), (K w.params).In h → h.Ns mainGlobals mg → mg d.name = some (.ref fa) →
      ∃ fd : FuncData, (∀ (s : Shared) (u : Value), BindsTo s fd ⟨[u], []⟩ [("_law_script", u)]) ∧ ∀ base : Heap, (K w.params).In base → base.Ns mainGlobals mg → FnG l.prog w (K w.params) mg base (L2.CX l.prog w) 10 fa fd ["_law_script"] (spLaw (K w.params))) :
    PySem.W.WalkO q loose XP YP l.row.toRowW d [] (fun f vs => PySem.call f vs) :=
  walkG_of (k := 10) hn hdf ⟨rfl, by decide, by decide⟩ hY F
end V
noncomputable section
namespace Dm
open PySem L2
noncomputable def Pot (p : Nat) (S : Sto) : Prop := ∃ k : Int, S[p]? = some (.lst [.int k])
structure Go (p : Nat) (S S' : Sto) : Prop where
  len : S.length ≤ S'.length
  same : ∀ n, n < S.length → n ≠ p → S'[n]? = S[n]?
  pot : Pot p S'
theorem Pot.lt {p : Nat} {S : Sto} (h : Pot p S) : p < S.length := by
  obtain ⟨k, e⟩ := h
  exact (List.getElem?_eq_some_iff.mp e).1
theorem Go.refl {p : Nat} {S : Sto} (h : Pot p S) : Go p S S := ⟨Nat.le_refl _, fun _ _ _ => rfl, h⟩
theorem Go.trans {p : Nat} {S S1 S2 : Sto} (a : Go p S S1) (b : Go p S1 S2) : Go p S S2 :=
  ⟨Nat.le_trans a.len b.len, fun n h hn => (b.same n (Nat.lt_of_lt_of_le h a.len) hn).trans (a.same n h hn), b.pot⟩
theorem Go.push {p : Nat} {S S1 : Sto} (a : Go p S S1) (c : Cell) : Go p S (S1 ++ [c]) :=
  ⟨by rw [List.length_append]; exact Nat.le_trans a.len (Nat.le_add_right _ _), fun n h hn => by
    rw [List.getElem?_append_left (Nat.lt_of_lt_of_le h a.len)]
    exact a.same n h hn, by
    obtain ⟨k, e⟩ := a.pot
    exact ⟨k, by rw [List.getElem?_append_left (List.getElem?_eq_some_iff.mp e).1]; exact e⟩⟩
theorem Go.setNew {p n : Nat} {S S1 : Sto} (hp : Pot p S) (a : Go p S S1) (hn : S.length ≤ n) (c : Cell) : Go p S (S1.set n c) :=
  ⟨by rw [List.length_set]; exact a.len, fun m h hm => by
    rw [List.getElem?_set_ne (by omega)]
    exact a.same m h hm, by
    obtain ⟨k, e⟩ := a.pot
    have := hp.lt
    exact ⟨k, by rw [List.getElem?_set_ne (by omega)]; exact e⟩⟩
theorem Go.get {p n : Nat} {S S1 : Sto} {c : Cell} (a : Go p S S1) (h : S[n]? = some c) (hn : n ≠ p) : S1[n]? = some c := by
  rw [a.same n (List.getElem?_eq_some_iff.mp h).1 hn]
  exact h
end Dm
namespace Dm
open PySem L2
theorem rngD_nil {lo : Int} : rngD lo 0 = [] := rfl
theorem rngD_cons {lo : Int} {n : Nat} : rngD lo (n + 1) = .int lo :: rngD (lo + 1) n := by
  unfold rngD
  rw [List.range_succ_eq_map, List.map_cons, List.map_map]
  congr 1
  · simp
  · refine List.map_congr_left fun i _ => ?_
    simp only [Function.comp]
    congr 1
    omega
theorem mul_bits {i j : Int} {n m : Nat} (h : i.natAbs < 2 ^ n) (h' : j.natAbs < 2 ^ m) : (i * j).natAbs < 2 ^ (n + m) := by
  rw [Int.natAbs_mul, Nat.pow_add]
  exact Nat.mul_lt_mul'' h h'
theorem add_bits {i j : Int} {n m : Nat} (h : i.natAbs < 2 ^ n) (h' : j.natAbs < 2 ^ n) (hm : n + 1 ≤ m) : (i + j).natAbs < 2 ^ m := by
  have a := Int.natAbs_add_le i j
  have b : 2 ^ (n + 1) ≤ 2 ^ m := Nat.pow_le_pow_right (by decide) hm
  have c : (2:Nat) ^ (n + 1) = 2 ^ n * 2 := Nat.pow_succ 2 n
  omega
theorem up_bits {i : Int} {n m : Nat} (h : i.natAbs < 2 ^ n) (hm : n ≤ m) : i.natAbs < 2 ^ m :=
  Nat.lt_of_lt_of_le h (Nat.pow_le_pow_right (by decide) hm)
end Dm
namespace Dm
open PySem L2
theorem seq_cut {ρ : Rho} {S : Sto} {N B C : Rho → Sto → Prop} {R : D → Sto → Prop} {EO : EXO} {a b : MS} (M : Rho → Sto → Prop) (h : ∀ M' : Rho → Sto → Prop, (∀ ρ S, M ρ S → M' ρ S) → (a ρ S).DoesE EO M' R B C) (k : ∀ ρ S, M ρ S → (b ρ S).DoesE EO N R B C) : (mSeq a b ρ S).DoesE EO N R B C := by
  rw [does_seq]
  exact (h M fun _ _ h => h).mono k (fun _ _ h => h) (fun _ _ h => h) (fun _ _ h => h)
inductive ZoneOK : List Int → Int → Prop
  | one (a s : Int) : -900 ≤ a → a ≤ 900 → 0 < s → s ≤ 1000000 → ZoneOK [a] s
  | two (a b s : Int) : -900 ≤ a → a < b → b ≤ 900 → b - a < s → s ≤ 1000000 → ZoneOK [a, b] s
  | three (a b c s : Int) : -900 ≤ a → a < b → b < c → c ≤ 900 → c - a < s → s ≤ 1000000 → ZoneOK [a, b, c] s
noncomputable def zoneD (os : List Int) (s : Int) : D := .tup [.tup (os.map .int), .int s]
@[simp] theorem atI_last1 {α : Type} {x : α} : atI [x] (-1) = some x := rfl
@[simp] theorem atI_last2 {α : Type} {x y : α} : atI [x, y] (-1) = some y := rfl
@[simp] theorem atI_last3 {α : Type} {x y z : α} : atI [x, y, z] (-1) = some z := rfl
end Dm
namespace Dm
open PySem L2
noncomputable def Bag (p n : Nat) (S : Sto) : Prop := ∃ a b c : Int, S[p]? = some (.lst [.int a, .int b, .int c]) ∧ 0 ≤ b ∧ b < 2305843009213693951 ∧ 0 ≤ c ∧ c + n ≤ 9223372036854775808
structure GoB (p : Nat) (S S' : Sto) : Prop where
  len : S.length ≤ S'.length
  same : ∀ n, n < S.length → n ≠ p → S'[n]? = S[n]?
theorem Bag.lt {p n : Nat} {S : Sto} (h : Bag p n S) : p < S.length := by
  obtain ⟨a, b, c, e, _⟩ := h
  exact (List.getElem?_eq_some_iff.mp e).1
theorem Bag.mono {p n m : Nat} {S : Sto} (h : Bag p n S) (hm : m ≤ n) : Bag p m S := by
  obtain ⟨a, b, c, e, h1, h2, h3, h4⟩ := h
  exact ⟨a, b, c, e, h1, h2, h3, by omega⟩
theorem Bag.push {p n : Nat} {S : Sto} (h : Bag p n S) (c : Cell) : Bag p n (S ++ [c]) := by
  have hl := h.lt
  obtain ⟨a, b, c, e, r⟩ := h
  exact ⟨a, b, c, by rw [List.getElem?_append_left hl]; exact e, r⟩
theorem Bag.set {p n q : Nat} {S : Sto} (h : Bag p n S) (hq : q ≠ p) (c : Cell) : Bag p n (S.set q c) := by
  obtain ⟨a, b, c, e, r⟩ := h
  exact ⟨a, b, c, by rw [List.getElem?_set_ne hq]; exact e, r⟩
theorem GoB.refl {p : Nat} {S : Sto} : GoB p S S := ⟨Nat.le_refl _, fun _ _ _ => rfl⟩
theorem GoB.trans {p : Nat} {S S1 S2 : Sto} (a : GoB p S S1) (b : GoB p S1 S2) : GoB p S S2 :=
  ⟨Nat.le_trans a.len b.len, fun n h hn => (b.same n (Nat.lt_of_lt_of_le h a.len) hn).trans (a.same n h hn)⟩
theorem GoB.push {p : Nat} {S : Sto} (c : Cell) : GoB p S (S ++ [c]) := ⟨by rw [List.length_append]; omega, fun n h _ => List.getElem?_append_left h⟩
theorem GoB.setNew {p n : Nat} {S S1 : Sto} (a : GoB p S S1) (hn : S.length ≤ n) (c : Cell) : GoB p S (S1.set n c) :=
  ⟨by rw [List.length_set]; exact a.len, fun m h hm => by
    rw [List.getElem?_set_ne (by omega)]
    exact a.same m h hm⟩
theorem GoB.get {p n : Nat} {S S1 : Sto} {c : Cell} (a : GoB p S S1) (h : S[n]? = some c) (hn : n ≠ p) : S1[n]? = some c := by
  rw [a.same n (List.getElem?_eq_some_iff.mp h).1 hn]
  exact h
end Dm
namespace Dm
open PySem L2
end Dm
namespace Dm
open PySem L2
theorem pure_of {α : Type} {r : Res α} {a : α} {S : Sto} (h : ∀ Q : α → Sto → Prop, Q a S → r.Does Q) : r = .ok a S := by
  obtain ⟨a', S', e, h1, h2⟩ := (h (fun x T => x = a ∧ T = S) ⟨rfl, rfl⟩).eq
  rw [e, h1, h2]
section
variable {S : Sto} {os : List Int} {s h m : Int} {js : List (Int × Int)}
theorem ZoneOK.len {os : List Int} {s : Int} (z : ZoneOK os s) : 1 ≤ os.length ∧ os.length ≤ 3 := by cases z <;> simp
theorem ZoneOK.sp (z : ZoneOK os s) : 0 < s ∧ s ≤ 1000000 := by cases z <;> constructor <;> omega
@[simp] theorem is_integer_int {i : Int} : m_is_integer [.int i] S = .ok (.bl true) S := by
  refine pure_of fun Q q => ?_
  refine does_def rfl ?_
  simpa [isTn] using q
theorem is_zone_ok (z : ZoneOK os s) : m_is_zone [zoneD os s] S = .ok (.bl true) S := by
  refine pure_of fun Q q => ?_
  refine does_def rfl ?_
  cases z with
  | one a s h1 h2 h3 h4 => simp [zoneD, isTn, rngD_cons, rngD_nil, h1, h2, h3, h4, q]
  | two a b s h1 h2 h3 h4 h5 =>
    have e1 : a ≤ 900 := by omega
    have e2 : -900 ≤ b := by omega
    have e3 : ¬ b ≤ a := by omega
    simp [zoneD, isTn, rngD_cons, rngD_nil, h1, h2, h3, h4, h5, e1, e2, e3, q]
  | three a b c s h1 h2 h3 h4 h5 h6 =>
    have e1 : a ≤ 900 := by omega
    have e2 : -900 ≤ b := by omega
    have e3 : ¬ b ≤ a := by omega
    have e4 : b ≤ 900 := by omega
    have e5 : -900 ≤ c := by omega
    have e6 : ¬ c ≤ b := by omega
    simp [zoneD, isTn, rngD_cons, rngD_nil, h1, h2, h3, h4, h5, h6, e1, e2, e3, e4, e5, e6, q]
@[simp] theorem need_zone_ok (z : ZoneOK os s) : m_need_zone [zoneD os s] S = .ok .non S := by
  refine pure_of fun Q q => ?_
  refine does_def rfl ?_
  simp [is_zone_ok z, q]
@[simp] theorem need_number_int {i : Int} : m_need_number [.int i] S = .ok .non S := by
  refine pure_of fun Q q => ?_
  refine does_def rfl ?_
  simp [q]
noncomputable def jmpD (j : Int × Int) : D := .tup [.int j.1, .int j.2]
noncomputable def tabD (h : Int) (js : List (Int × Int)) : D := .tup [.int h, .tup (js.map jmpD)]
section
variable {j : Int × Int} {ρ : Rho} {f : List D → Rho → Option Rho}
@[simp] theorem ix_jmp0 : gIx S (jmpD j) (.int 0) = some (.int j.1) := by simp [jmpD]
@[simp] theorem ix_jmp1 : gIx S (jmpD j) (.int 1) = some (.int j.2) := by simp [jmpD]
@[simp] theorem ix_tab0 : gIx S (tabD h js) (.int 0) = some (.int h) := by simp [tabD]
@[simp] theorem ix_tab1 : gIx S (tabD h js) (.int 1) = some (.tup (js.map jmpD)) := by simp [tabD]
@[simp] theorem ix_zone0 : gIx S (zoneD os s) (.int 0) = some (.tup (os.map .int)) := by simp [zoneD]
@[simp] theorem ix_zone1 : gIx S (zoneD os s) (.int 1) = some (.int s) := by simp [zoneD]
@[simp] theorem len_jmp : gLen S [jmpD j] = some (.int 2) := rfl
@[simp] theorem len_tab : gLen S [tabD h js] = some (.int 2) := rfl
@[simp] theorem len_zone : gLen S [zoneD os s] = some (.int 2) := rfl
@[simp] theorem ty_jmp : tyOf S (jmpD j) = some .tup := rfl
@[simp] theorem ty_tab : tyOf S (tabD h js) = some .tup := rfl
@[simp] theorem ty_zone : tyOf S (zoneD os s) = some .tup := rfl
@[simp] theorem tg_jmp : tgT 2 f (jmpD j) ρ = f [.int j.1, .int j.2] ρ := rfl
@[simp] theorem tg_tab : tgT 2 f (tabD h js) ρ = f [.int h, .tup (js.map jmpD)] ρ := rfl
@[simp] theorem tg_zone : tgT 2 f (zoneD os s) ρ = f [.tup (os.map .int), .int s] ρ := rfl
end
noncomputable def Chain (os : List Int) (s : Int) : Int → Option Int → List (Int × Int) → Prop
  | _, _, [] => True
  | h, p, (m, o) :: r => o ∈ os ∧ o ≠ h ∧ (∀ q, p = some q → q + s ≤ m) ∧ Chain os s o (some m) r
structure TabOK (os : List Int) (s h : Int) (js : List (Int × Int)) : Prop where
  held : h ∈ os
  chain : Chain os s h none js
theorem flat_ints (os : List Int) : (os.map D.int).all flatD = true := by
  rw [List.all_map]
  exact List.all_eq_true.mpr fun _ _ => rfl
theorem any_ints (os : List Int) (o : Int) : (os.map D.int).any (eqF · (.int o)) = decide (o ∈ os) := by
  induction os with
  | nil => simp
  | cons a r ih =>
    rw [List.map_cons, List.any_cons, ih, eqF_int]
    have e : (a == o) = decide (o = a) := by
      by_cases h : o = a
      · subst h; simp
      · have h' : ¬ a = o := fun x => h x.symm
        simp [h, h']
    rw [e]
    simp
theorem gIn_ints {o : Int} : gIn false S (.int o) (.tup (os.map .int)) = some (.bl (decide (o ∈ os))) := by
  unfold gIn
  rw [seqOf_tup]
  simp only
  rw [if_pos ⟨rfl, flat_ints os⟩, any_ints]
  simp
theorem is_offset_int {o : Int} : m_is_offset [zoneD os s, .int o] S = .ok (.bl (decide (o ∈ os))) S := by
  refine pure_of fun Q q => ?_
  refine does_def rfl ?_
  simp [gIn_ints, q]
theorem is_mark_jmp {j : Int × Int} : m_is_mark [zoneD os s, jmpD j] S = .ok (.bl (decide (j.2 ∈ os))) S := by
  refine pure_of fun Q q => ?_
  refine does_def rfl ?_
  simp [isTn, is_offset_int, q]
noncomputable def enumF (k : Nat) (ds : List D) : List D := (ds.zipIdx k).map fun p => .tup [.int (p.2 : Nat), p.1]
theorem enumD_eq {ds : List D} : enumD ds = enumF 0 ds := rfl
theorem enumF_cons {k : Nat} {d : D} {r : List D} : enumF k (d :: r) = .tup [.int k, d] :: enumF (k + 1) r := rfl
theorem is_table_ok (z : ZoneOK os s) (t : TabOK os s h js) : m_is_table [zoneD os s, tabD h js] S = .ok (.bl true) S := by
  refine pure_of fun Q q => ?_
  refine does_def rfl ?_
  simp [isTn, need_zone_ok z, is_offset_int, t.held, enumD_eq]
  refine forL_cut (fun ds ρ S' => S' = S ∧ ∃ (pre suf : List (Int × Int)) (h' : Int) (pm : Option Int) (x4 x5 : Option D), ρ = [some (zoneD os s), some (tabD h js), some (.int h'), some (.tup (js.map jmpD)), x4, x5]
    ∧ js = pre ++ suf ∧ ds = enumF pre.length (suf.map jmpD) ∧ Chain os s h' pm suf ∧ (pre ≠ [] → ∃ m o, pm = some m ∧ atI (js.map jmpD) ((pre.length : Int) - 1) = some (jmpD (m, o)))) _ ⟨rfl, [], js, h, none, none, none, rfl, rfl, rfl, t.chain, fun h => (h rfl).elim⟩ ?_ ?_
  · rintro d r ρ S' ⟨rfl, pre, suf, h', pm, x4, x5, rfl, ej, e, c, l⟩
    cases suf with
    | nil => cases e
    | cons j suf =>
      rw [List.map_cons, enumF_cons] at e
      injection e with e1 e2
      subst e1
      obtain ⟨c1, c2, c3, c4⟩ := c
      refine ⟨[some (zoneD os s), some (tabD h js), some (.int h'), some (.tup (js.map jmpD)), some (.int pre.length), some (jmpD j)], by simp, fun M hM => ?_⟩
      have last : some (jmpD j) = atI (js.map jmpD) (((pre ++ [j]).length : Int) - 1) := by
        rw [ej, atI_of (by simp) (by simp; omega)]
        simp
      have fin : M [some (zoneD os s), some (tabD h js), some (.int j.2), some (.tup (js.map jmpD)), some (.int pre.length), some (jmpD j)] S' :=
        hM _ _ ⟨rfl, pre ++ [j], suf, _, _, _, _, rfl, by rw [ej, List.append_assoc] <;> rfl, by rw [e2, List.length_append] <;> rfl, c4, fun _ => ⟨_, _, rfl, last.symm⟩⟩
      simp [is_mark_jmp, c1, c2]
      by_cases hp : pre = []
      · subst hp
        simpa using fin
      · obtain ⟨m, o, e3, e4⟩ := l hp
        have c5 := c3 m e3
        rw [e4]
        have c6 : ¬ j.1 - m < s := by omega
        simp [List.length_pos_iff, hp, c6]
        exact fin
  · rintro ρ S' ⟨rfl, pre, suf, h', pm, x4, x5, rfl, ej, e, c, l⟩
    simpa using q
end
end Dm
namespace Dm
open PySem L2
section
variable {S : Sto} {os : List Int} {s h m : Int} {js : List (Int × Int)} {p : Nat}
@[simp] theorem need_table_ok (z : ZoneOK os s) (t : TabOK os s h js) : m_need_table [zoneD os s, tabD h js] S = .ok .non S := by
  refine pure_of fun Q q => ?_
  refine does_def rfl ?_
  simp [is_table_ok z t, q]
noncomputable def offAt : Int → List (Int × Int) → Int → Int
  | h, [], _ => h
  | h, (a, o) :: r, m => if m < a then h else offAt o r m
@[simp] theorem whole_int {i : Int} : m_law_whole [.int i] S = .ok (.bl true) S := by
  refine pure_of fun Q q => ?_
  refine does_def rfl ?_
  simpa [isTn] using q
theorem same_int {n : Nat} {i j : Int} : m_law_same (n + 1) [.int i, .int j] S = .ok (.bl (i == j)) S := by
  refine pure_of fun Q q => ?_
  unfold m_law_same
  refine does_def rfl ?_
  simpa [isTn] using q
@[simp] theorem same_int30 {i j : Int} : m_law_same 30 [.int i, .int j] S = .ok (.bl (i == j)) S := same_int
theorem ZoneOK.at (z : ZoneOK os s) {i : Int} (h0 : 0 ≤ i) (h1 : i < os.length) : ∃ o, atI (os.map D.int) i = some (.int o) ∧ o ∈ os ∧ os[i.toNat]? = some o := by
  have l : i.toNat < os.length := by omega
  refine ⟨os[i.toNat], ?_, List.getElem_mem l, List.getElem?_eq_getElem l⟩
  rw [atI_of h0 (by rw [List.length_map]; exact h1), List.getElem?_map, List.getElem?_eq_getElem l] <;> rfl
end
end Dm
namespace Dm
open PySem L2
section
variable {S : Sto} {os : List Int} {s h m : Int} {js : List (Int × Int)} {p : Nat}
theorem Pot.set {n : Nat} {c : Cell} (h : Pot p S) (hn : p ≠ n) : Pot p (S.set n c) := by
  obtain ⟨k, e⟩ := h
  exact ⟨k, by rw [List.getElem?_set_ne (Ne.symm hn)]; exact e⟩
end
theorem cut_len {ds : List D} {lo hi : Option Int} : (cutD ds lo hi).length ≤ ds.length := by
  unfold cutD
  rw [List.length_take, List.length_drop]
  omega
theorem cut_mem {ds : List D} {lo hi : Option Int} {d : D} (h : d ∈ cutD ds lo hi) : d ∈ ds := List.mem_of_mem_drop (List.mem_of_mem_take h)
end Dm
namespace Dm
open PySem L2
inductive Eqv (S : Sto) : Nat → D → D → Prop
  | non {n : Nat} : Eqv S n .non .non
  | int {n : Nat} {i : Int} : Eqv S n (.int i) (.int i)
  | bl {n : Nat} {b : Bool} : Eqv S n (.bl b) (.bl b)
  | str {n : Nat} {x : Str} : Eqv S n (.str x) (.str x)
  | tup {n : Nat} {ds es : List D} : ds.length = es.length → es.length ≤ 16777216 → (∀ (i : Nat) (d e : D), ds[i]? = some d → es[i]? = some e → Eqv S n d e) → Eqv S (n + 1) (.tup ds) (.tup es)
  | lst {n : Nat} {d e : D} {ds es : List D} : lstOf S d = some ds → lstOf S e = some es → ds.length = es.length → es.length ≤ 16777216 → (∀ (i : Nat) (d e : D), ds[i]? = some d → es[i]? = some e → Eqv S n d e) → Eqv S (n + 1) d e
section
variable {S : Sto}
theorem Eqv.up {n m : Nat} {d e : D} (h : Eqv S n d e) (hm : n ≤ m) : Eqv S m d e := by
  induction h generalizing m with
  | non => exact .non
  | int => exact .int
  | bl => exact .bl
  | str => exact .str
  | tup hl h16 _ ih =>
    obtain ⟨k, rfl⟩ : ∃ k, m = k + 1 := ⟨m - 1, by omega⟩
    exact .tup hl h16 fun i d e a b => ih i d e a b (by omega)
  | lst hd he hl h16 _ ih =>
    obtain ⟨k, rfl⟩ : ∃ k, m = k + 1 := ⟨m - 1, by omega⟩
    exact .lst hd he hl h16 fun i d e a b => ih i d e a b (by omega)
end
end Dm
namespace Dm
open PySem L2
section
variable {S : Sto} {os : List Int} {s h m r : Int} {js : List (Int × Int)} {p : Nat}
noncomputable def momsOf (os : List Int) (h : Int) (js : List (Int × Int)) (r : Int) : List Int := (os.reverse.filter fun o => offAt h js (r - o) == o).map fun o => r - o
theorem lcQ_filter {f : D → Rho → Option Rho} {mt me : ME} {ρ : Rho} {α : Type} {as : List α} {i : α → D} {S : Sto} {Q : List D → Sto → Prop} (t : α → Bool) (g : α → D) (h : ∀ a, a ∈ as → ∃ ρ1, f (i a) ρ = some ρ1 ∧ (∀ Q : D → Sto → Prop, Q (.bl (t a)) S → (mt ρ1 S).Does Q) ∧ ∀ Q : D → Sto → Prop, t a = true → Q (g a) S → (me ρ1 S).Does Q) (q : Q ((as.filter t).map g) S) : LcQ f mt me ρ (as.map i) S Q := by
  induction as generalizing Q with
  | nil => rw [List.map_nil, lcQ_nil]; exact q
  | cons a r ih =>
    obtain ⟨ρ1, e, k1, k2⟩ := h a List.mem_cons_self
    rw [List.map_cons, lcQ_cons, e]
    refine k1 _ ?_
    rw [blQ_bl]
    cases c : t a with
    | true =>
      rw [if_pos rfl]
      refine k2 _ c (ih (fun d hd => h d (List.mem_cons_of_mem _ hd)) ?_)
      rw [List.filter_cons, if_pos c] at q
      exact q
    | false =>
      rw [if_neg (by decide)]
      refine ih (fun d hd => h d (List.mem_cons_of_mem _ hd)) ?_
      rw [List.filter_cons, if_neg (by rw [c]; decide)] at q
      exact q
end
end Dm
namespace Dm
open PySem L2
structure GoS (P : Nat → Prop) (S S' : Sto) : Prop where
  len : S.length ≤ S'.length
  same : ∀ n, n < S.length → ¬ P n → S'[n]? = S[n]?
  pot : ∀ n, P n → Pot n S'
section
variable {P : Nat → Prop} {S S1 S2 : Sto} {p q n : Nat} {os : List Int} {s : Int}
theorem GoS.refl (h : ∀ n, P n → Pot n S) : GoS P S S := ⟨Nat.le_refl _, fun _ _ _ => rfl, h⟩
theorem GoS.trans (a : GoS P S S1) (b : GoS P S1 S2) : GoS P S S2 :=
  ⟨Nat.le_trans a.len b.len, fun n h hn => (b.same n (Nat.lt_of_lt_of_le h a.len) hn).trans (a.same n h hn), b.pot⟩
theorem Pot.push {c : Cell} (h : Pot p S) : Pot p (S ++ [c]) := by
  obtain ⟨k, e⟩ := h
  exact ⟨k, by rw [List.getElem?_append_left (List.getElem?_eq_some_iff.mp e).1]; exact e⟩
theorem GoS.push (a : GoS P S S1) (c : Cell) : GoS P S (S1 ++ [c]) :=
  ⟨by rw [List.length_append]; exact Nat.le_trans a.len (Nat.le_add_right _ _), fun n h hn => by
    rw [List.getElem?_append_left (Nat.lt_of_lt_of_le h a.len)]
    exact a.same n h hn, fun n hn => (a.pot n hn).push⟩
theorem GoS.setNew (h : ∀ n, P n → Pot n S) (a : GoS P S S1) (hn : S.length ≤ n) (c : Cell) : GoS P S (S1.set n c) :=
  ⟨by rw [List.length_set]; exact a.len, fun m hm hp => by
    rw [List.getElem?_set_ne (by omega)]
    exact a.same m hm hp, fun m hm => by
    have := (h m hm).lt
    exact (a.pot m hm).set (by omega)⟩
theorem GoS.get {c : Cell} (a : GoS P S S1) (h : S[n]? = some c) (hn : ¬ P n) : S1[n]? = some c := by
  rw [a.same n (List.getElem?_eq_some_iff.mp h).1 hn]
  exact h
theorem Go.all (g : Go q S S1) (hq : P q) (h : ∀ n, P n → Pot n S) : GoS P S S1 :=
  ⟨g.len, fun n hn hp => g.same n hn fun e => hp (e ▸ hq), fun n hn => by
    by_cases e : n = q
    · subst e; exact g.pot
    · obtain ⟨k, z⟩ := h n hn
      exact ⟨k, g.get z e⟩⟩
theorem GoS.one (g : GoS (· = p) S S1) : Go p S S1 := ⟨g.len, fun n hn e => g.same n hn e, g.pot p rfl⟩
noncomputable def looksD (ls : List (Int × Int)) : D := .tup (ls.map jmpD)
end
end Dm
namespace Dm
open PySem L2
noncomputable def Hh (ls : List (Int × Int)) (i : Nat) : Int := (ls.getD i (0, 0)).1
noncomputable def Oo (ls : List (Int × Int)) (i : Nat) : Int := (ls.getD i (0, 0)).2
noncomputable def chg (ls : List (Int × Int)) (i : Nat) : Int := if Oo ls (i + 1) = Oo ls i then 0 else 1
noncomputable def tal (ls : List (Int × Int)) : Nat → Int
  | 0 => 0
  | k + 1 => tal ls k + chg ls k
noncomputable def cond (s : Int) (ls : List (Int × Int)) (i j : Nat) : Bool := decide (Hh ls j - Hh ls i - 1 < (tal ls j - tal ls i - 1) * s)
noncomputable def crowAt (s : Int) (ls : List (Int × Int)) (j : Nat) : Option (Nat × Nat) := (List.range' 0 j).findSome? fun b => if cond s ls (j - 1 - b) j then some (j - 1 - b, j) else none
noncomputable def crow (s : Int) (ls : List (Int × Int)) : Option (Nat × Nat) := (List.range' 0 ls.length).findSome? fun j => crowAt s ls j
section
variable {S : Sto} {os : List Int} {s : Int} {ls : List (Int × Int)} {n p : Nat}
@[simp] theorem ty_looks : tyOf S (looksD ls) = some .tup := rfl
@[simp] theorem len_looks : gLen S [looksD ls] = some (.int ls.length) := by simp [looksD]
@[simp] theorem ix_looks {i : Int} : gIx S (looksD ls) (.int i) = atI (ls.map jmpD) i := rfl
end
end Dm
namespace Dm
open PySem L2
end Dm
namespace Dm
open PySem L2
noncomputable def bar (s : Int) (p : Option Int) (h : Int) : Int := match p with
  | none => h + 1
  | some q => if q + s > h + 1 then q + s else h + 1
noncomputable def early (s : Int) : Option Int → Int × Int → List (Int × Int) → Option (List (Int × Int))
  | _, _, [] => some []
  | p, (h, o), (h', o') :: r => if o' = o then early s p (h', o') r else if bar s p h > h' then none else (early s (some (bar s p h)) (h', o') r).map ((bar s p h, o') :: ·)
noncomputable def earlyT (os : List Int) (s : Int) : List (Int × Int) → Option (Int × List (Int × Int))
  | [] => some (os.headD 0, [])
  | l :: r => (early s none l r).map (l.2, ·)
end Dm
namespace Dm
open PySem L2
inductive Plain : Nat → D → Prop
  | non {n : Nat} : Plain n .non
  | int {n : Nat} {i : Int} : Plain n (.int i)
  | bl {n : Nat} {b : Bool} : Plain n (.bl b)
  | str {n : Nat} {x : Str} : Plain n (.str x)
  | tup {n : Nat} {ds : List D} : ds.length ≤ 16777216 → (∀ d, d ∈ ds → Plain n d) → Plain (n + 1) (.tup ds)
theorem Plain.eqv {S : Sto} {n : Nat} {d : D} (h : Plain n d) : Eqv S n d d := by
  induction h with
  | non => exact .non
  | int => exact .int
  | bl => exact .bl
  | str => exact .str
  | tup hl _ ih => exact .tup rfl hl fun i d e a b => by rw [a] at b; cases b; exact ih d (List.mem_of_getElem? a)
theorem Plain.up {n m : Nat} {d : D} (h : Plain n d) (hm : n ≤ m) : Plain m d := by
  induction h generalizing m with
  | non => exact .non
  | int => exact .int
  | bl => exact .bl
  | str => exact .str
  | tup hl _ ih =>
    obtain ⟨k, rfl⟩ : ∃ k, m = k + 1 := ⟨m - 1, by omega⟩
    exact .tup hl fun d hd => ih d hd (by omega)
end Dm
namespace Dm
open PySem L2
end Dm
namespace Dm
open PySem L2
end Dm
namespace Dm
open PySem L2
theorem cut_take {ds : List D} {k : Int} (h : 0 ≤ k) : cutD ds none (some k) = ds.take k.toNat := by
  unfold cutD
  have e : k = (k.toNat : Int) := by omega
  rw [e, HT.sIx_nat, HT.sIx_none, List.drop_zero, Nat.sub_zero, Int.toNat_natCast]
  by_cases c : k.toNat ≤ ds.length
  · rw [Nat.min_eq_left c]
  · rw [Nat.min_eq_right (by omega), List.take_length, List.take_of_length_le (by omega)]
section
variable {S : Sto} {os : List Int} {s m o : Int} {ls : List (Int × Int)} {n p : Nat}
noncomputable def Grow (S S' : Sto) : Prop := ∃ cs, S' = S ++ cs
theorem Grow.refl : Grow S S := ⟨[], (List.append_nil _).symm⟩
theorem Grow.push {S' : Sto} (h : Grow S S') (c : Cell) : Grow S (S' ++ [c]) := by
  obtain ⟨cs, rfl⟩ := h
  exact ⟨cs ++ [c], by rw [List.append_assoc]⟩
theorem Grow.trans {S1 S2 : Sto} (h : Grow S S1) (h2 : Grow S1 S2) : Grow S S2 := by
  obtain ⟨cs, rfl⟩ := h
  obtain ⟨ds, rfl⟩ := h2
  exact ⟨cs ++ ds, by rw [List.append_assoc]⟩
theorem Grow.get {S' : Sto} {c : Cell} (h : Grow S S') (e : S[n]? = some c) : S'[n]? = some c := by
  obtain ⟨cs, rfl⟩ := h
  rw [List.getElem?_append_left (List.getElem?_eq_some_iff.mp e).1]
  exact e
theorem Grow.len {S' : Sto} (h : Grow S S') : S.length ≤ S'.length := by
  obtain ⟨cs, rfl⟩ := h
  rw [List.length_append]; omega
theorem Grow.go {S' : Sto} (h : Grow S S') (hp : Pot p S) : Go p S S' := by
  refine ⟨h.len, fun n hn _ => ?_, ?_⟩
  · obtain ⟨cs, rfl⟩ := h
    rw [List.getElem?_append_left hn]
  · obtain ⟨k, e⟩ := hp
    exact ⟨k, h.get e⟩
end
end Dm
namespace Dm
open PySem L2
section
variable {S : Sto} {os : List Int} {s h r : Int} {js : List (Int × Int)} {fold gap : Str}
structure Ends2 (os : List Int) (s a b : Int) : Prop where
  lo : atI (os.map D.int) 0 = some (.int a)
  hi : atI (os.map D.int) (-1) = some (.int b)
  w : b - a < s
  mem : ∀ o, o ∈ os → a ≤ o ∧ o ≤ b
  ma : a ∈ os
  mb : b ∈ os
@[simp] theorem gDIx_new {kvs : List (Key × D)} {y : D} : gDIx (S ++ [.dic kvs]) (.cell S.length) y = (keyD y).bind fun k => valD kvs k := gDIx_cell (by simp)
noncomputable def RuleF (x : Str) : Prop := x = "early" ∨ x = "late" ∨ x = "refuse"
noncomputable def RuleG (x : Str) : Prop := x = "ahead" ∨ x = "behind" ∨ x = "refuse"
@[simp] theorem flatD_str {x : Str} : flatD (.str x) = true := rfl
end
end Dm
namespace Dm
open PySem L2
inductive Kd where
  | mom | rdg | spn
  deriving DecidableEq
noncomputable def Kd.s : Kd → Str
  | .mom => "moment"
  | .rdg => "reading"
  | .spn => "span"
noncomputable def Kd.d (k : Kd) : D := .str k.s
inductive Stp where
  | read (i p : Nat) | find (i p : Nat) (f g : Str) | offset (i p : Nat) | edition (i p : Nat)
  | plus (i j : Nat) | less (i j : Nat) | add (i : Nat) (m : Int)
noncomputable def Stp.d : Stp → D
  | .read i p => .tup [.str "read", .int i, .int p]
  | .find i p f g => .tup [.str "find", .int i, .int p, .str f, .str g]
  | .offset i p => .tup [.str "offset", .int i, .int p]
  | .edition i p => .tup [.str "edition", .int i, .int p]
  | .plus i j => .tup [.str "plus", .int i, .int j]
  | .less i j => .tup [.str "less", .int i, .int j]
  | .add i m => .tup [.str "add", .int i, .int m]
noncomputable def Stp.kind (row : List Kd) : Stp → Kd
  | .read _ _ => .rdg
  | .find _ _ _ _ => .mom
  | .offset _ _ => .spn
  | .edition _ _ => .mom
  | .plus _ _ => .rdg
  | .less _ _ => .mom
  | .add i _ => row.getD i .mom
noncomputable def Stp.OK (nz : Nat) (row : List Kd) : Stp → Prop
  | .read i p => row[i]? = some .mom ∧ p < nz
  | .find i p f g => row[i]? = some .rdg ∧ p < nz ∧ RuleF f ∧ RuleG g
  | .offset i p => row[i]? = some .mom ∧ p < nz
  | .edition i p => row[i]? = some .mom ∧ p < nz
  | .plus i j => row[i]? = some .mom ∧ row[j]? = some .spn
  | .less i j => row[i]? = some .rdg ∧ row[j]? = some .spn
  | .add i m => (row[i]? = some .mom ∨ row[i]? = some .rdg) ∧ -100000 ≤ m ∧ m ≤ 100000
noncomputable def Stp.isEd : Stp → Bool
  | .edition _ _ => true
  | _ => false
noncomputable def kindsFrom (row : List Kd) : List Stp → List Kd
  | [] => row
  | t :: ts => kindsFrom (row ++ [t.kind row]) ts
noncomputable def ProgFrom (nz : Nat) (row : List Kd) : List Stp → Prop
  | [] => True
  | t :: ts => t.OK nz row ∧ ProgFrom nz (row ++ [t.kind row]) ts
noncomputable def progD (ts : List Stp) : D := .tup (ts.map Stp.d)
structure ProgOK (nz : Nat) (ts : List Stp) : Prop where
  len : ts.length ≤ 8
  steps : ProgFrom nz [.mom] ts
  eds : (ts.filter Stp.isEd).length < 2
theorem kindsFrom_snoc (row : List Kd) : ∀ (ts : List Stp) (t : Stp), kindsFrom row (ts ++ [t]) = kindsFrom row ts ++ [t.kind (kindsFrom row ts)]
  | [], t => rfl
  | u :: ts, t => by
    show kindsFrom (row ++ [u.kind row]) (ts ++ [t]) = _
    rw [kindsFrom_snoc]; rfl
theorem progFrom_snoc {nz : Nat} : ∀ {ts : List Stp} {row : List Kd} {t : Stp}, ProgFrom nz row ts → t.OK nz (kindsFrom row ts) → ProgFrom nz row (ts ++ [t])
  | [], _, _, _, h => ⟨h, trivial⟩
  | u :: ts, _, _, ⟨a, b⟩, h => ⟨a, progFrom_snoc b h⟩
theorem kindsFrom_length (row : List Kd) : ∀ ts : List Stp, (kindsFrom row ts).length = row.length + ts.length
  | [] => rfl
  | t :: ts => by
    show (kindsFrom (row ++ [t.kind row]) ts).length = _
    rw [kindsFrom_length]
    simp
    omega
section
variable {S : Sto} {zs : List D} {n m : Nat} {row : List Kd}
theorem row_at {i : Nat} {k : Kd} (hn : S[n]? = some (.lst (row.map Kd.d))) (h : row[i]? = some k) : gIx S (.cell n) (.int i) = some (.str k.s) ∧ gLen S [.cell n] = some (.int row.length) ∧ (i : Int) < row.length := by
  have hi := (List.getElem?_eq_some_iff.mp h).1
  refine ⟨?_, by rw [gLen_cell hn, List.length_map], by omega⟩
  rw [gIx_cell hn, atI_of (by omega) (by rw [List.length_map]; omega)]
  simp [h, Kd.d]
theorem part_kind {i : Nat} {k : Kd} (hn : S[n]? = some (.lst (row.map Kd.d))) (h : row[i]? = some k) : m_is_part [.tup zs, .cell n, .str k.s, .int i] S = .ok (.bl true) S := by
  refine pure_of fun Q q => ?_
  refine does_def rfl ?_
  obtain ⟨h1, h2, h3⟩ := row_at hn h
  cases k <;> (simp [h1, h2, h3, Kd.s]; exact q)
theorem part_point {i : Nat} {k : Kd} (hn : S[n]? = some (.lst (row.map Kd.d))) (h : row[i]? = some k) (hk : k ≠ .spn) : m_is_part [.tup zs, .cell n, .str "point", .int i] S = .ok (.bl true) S := by
  refine pure_of fun Q q => ?_
  refine does_def rfl ?_
  obtain ⟨h1, h2, h3⟩ := row_at hn h
  cases k with
  | spn => exact absurd rfl hk
  | mom => simp [h1, h2, h3, Kd.s]; exact q
  | rdg => simp [h1, h2, h3, Kd.s]; exact q
theorem part_place {p : Nat} (h : p < zs.length) : m_is_part [.tup zs, .cell n, .str "place", .int p] S = .ok (.bl true) S := by
  refine pure_of fun Q q => ?_
  refine does_def rfl ?_
  simp [h]; exact q
theorem part_minutes {m : Int} (h : -100000 ≤ m ∧ m ≤ 100000) : m_is_part [.tup zs, .cell n, .str "minutes", .int m] S = .ok (.bl true) S := by
  refine pure_of fun Q q => ?_
  refine does_def rfl ?_
  simp [h]; exact q
theorem part_fold {f : Str} (h : RuleF f) : m_is_part [.tup zs, .cell n, .str "fold", .str f] S = .ok (.bl true) S := by
  refine pure_of fun Q q => ?_
  refine does_def rfl ?_
  rcases h with rfl | rfl | rfl <;> (simp [isTn, gIn, eqF]; exact q)
theorem part_gap {f : Str} (h : RuleG f) : m_is_part [.tup zs, .cell n, .str "gap", .str f] S = .ok (.bl true) S := by
  refine pure_of fun Q q => ?_
  refine does_def rfl ?_
  rcases h with rfl | rfl | rfl <;> (simp [isTn, gIn, eqF]; exact q)
theorem is_step_ok {t : Stp} (hn : S[n]? = some (.lst (row.map Kd.d))) (h : t.OK zs.length row) : m_is_step [.tup zs, .cell n, t.d] S = .ok (.bl true) S := by
  refine pure_of fun Q q => ?_
  refine does_def rfl ?_
  cases t with
  | read i p =>
    have e1 := part_kind (zs := zs) hn h.1
    have e2 := part_place (S := S) (n := n) h.2
    simp only [Kd.s] at e1
    simp (decide := true) [Stp.d, isTn, tbLook, enumD, wipeD, e1, e2, gAll, lstOf, blsOf]
    exact q
  | offset i p =>
    have e1 := part_kind (zs := zs) hn h.1
    have e2 := part_place (S := S) (n := n) h.2
    simp only [Kd.s] at e1
    simp (decide := true) [Stp.d, isTn, tbLook, enumD, wipeD, e1, e2, gAll, lstOf, blsOf]
    exact q
  | edition i p =>
    have e1 := part_kind (zs := zs) hn h.1
    have e2 := part_place (S := S) (n := n) h.2
    simp only [Kd.s] at e1
    simp (decide := true) [Stp.d, isTn, tbLook, enumD, wipeD, e1, e2, gAll, lstOf, blsOf]
    exact q
  | find i p f g =>
    have e1 := part_kind (zs := zs) hn h.1
    have e2 := part_place (S := S) (n := n) h.2.1
    have e3 := part_fold (S := S) (n := n) (zs := zs) h.2.2.1
    have e4 := part_gap (S := S) (n := n) (zs := zs) h.2.2.2
    simp only [Kd.s] at e1
    simp (decide := true) [Stp.d, isTn, tbLook, enumD, wipeD, atI, ixN, e1, e2, e3, e4, gAll, lstOf, blsOf]
    exact q
  | plus i j =>
    have e1 := part_kind (zs := zs) hn h.1
    have e2 := part_kind (zs := zs) hn h.2
    simp only [Kd.s] at e1 e2
    simp (decide := true) [Stp.d, isTn, tbLook, enumD, wipeD, e1, e2, gAll, lstOf, blsOf]
    exact q
  | less i j =>
    have e1 := part_kind (zs := zs) hn h.1
    have e2 := part_kind (zs := zs) hn h.2
    simp only [Kd.s] at e1 e2
    simp (decide := true) [Stp.d, isTn, tbLook, enumD, wipeD, e1, e2, gAll, lstOf, blsOf]
    exact q
  | add i m =>
    have e2 := part_minutes (S := S) (n := n) (zs := zs) h.2
    have e1 : m_is_part [.tup zs, .cell n, .str "point", .int i] S = .ok (.bl true) S := by
      rcases h.1 with h | h
      · exact part_point hn h (by decide)
      · exact part_point hn h (by decide)
    simp (decide := true) [Stp.d, isTn, tbLook, enumD, wipeD, e1, e2, gAll, lstOf, blsOf]
    exact q
theorem kind_made_ok {t : Stp} (hn : S[n]? = some (.lst (row.map Kd.d))) (h : t.OK m row) : m_kind_made [.cell n, t.d] S = .ok (t.kind row).d S := by
  refine pure_of fun Q q => ?_
  refine does_def rfl ?_
  cases t with
  | add i m =>
    have e : ∃ k, row[i]? = some k := by rcases h.1 with h | h <;> exact ⟨_, h⟩
    obtain ⟨k, e⟩ := e
    obtain ⟨h1, h2, h3⟩ := row_at hn e
    simp [Stp.d, h1]
    simp [Stp.kind, e, Kd.d] at q
    exact q
  | _ => simp (decide := true) [Stp.d, tbLook]; exact q
theorem kinds_of_does {ts : List Stp} {Q : D → Sto → Prop} (h : ProgFrom m [.mom] ts) (hl : ts.length ≤ 60) (q : Q (.cell S.length) (S ++ [.lst ((kindsFrom [.mom] ts).map Kd.d)])) : (m_kinds_of [progD ts] S).Does Q := by
  refine does_def rfl ?_
  simp [progD]
  refine forL_cut (fun ds ρ S' => ∃ us row x2, ds = (us : List Stp).map Stp.d ∧ ρ = [some (.tup (ts.map Stp.d)), some (.cell S.length), x2] ∧ S' = S ++ [.lst (row.map Kd.d)] ∧ ProgFrom m row us ∧ kindsFrom row us = kindsFrom [.mom] ts ∧ row.length + us.length ≤ 61) _
    ⟨ts, [.mom], _, rfl, rfl, rfl, h, rfl, by simp; omega⟩ ?_ ?_
  · rintro d r ρ S1 ⟨us, row, x2, e, rfl, rfl, hp, hk, hl⟩
    cases us with
    | nil => cases e
    | cons u us =>
      simp at e
      obtain ⟨rfl, rfl⟩ := e
      refine ⟨_, rfl, fun M hM => ?_⟩
      have hn : (S ++ [.lst (row.map Kd.d)])[S.length]? = some (.lst (row.map Kd.d)) := by simp
      simp at hl
      simp [kind_made_ok hn hp.1]
      refine ⟨by omega, hM _ _ ⟨us, row ++ [u.kind row], _, rfl, rfl, by simp, hp.2, hk, by simp; omega⟩⟩
  · rintro ρ S1 ⟨us, row, x2, e, rfl, rfl, hp, hk, hl⟩
    cases us with
    | nil =>
      simp
      rw [← hk] at q
      exact q
    | cons u us => cases e
end
end Dm
namespace Dm
open PySem L2
abbrev Zs := List (List Int × Int)
noncomputable def zonesD (zs : Zs) : D := .tup (zs.map fun z => zoneD z.1 z.2)
structure ZsOK (zs : Zs) : Prop where
  all : ∀ z, z ∈ zs → ZoneOK z.1 z.2
  len : zs.length = 1 ∨ zs.length = 2
section
variable {S : Sto} {zs : Zs} {ts : List Stp}
theorem is_zones_ok (z : ZsOK zs) : m_is_zones [zonesD zs] S = .ok (.bl true) S := by
  refine pure_of fun Q q => ?_
  refine does_def rfl ?_
  obtain ⟨h, l⟩ := z
  match zs, h, l with
  | [], _, l => simp at l
  | [a], h, _ =>
    have h1 := h a (by simp)
    simp [zonesD, isTn, wipeD]
    rw [lcAQ_fix (n := 1) (ds := [zoneD a.1 a.2]) (.inl rfl) rfl]
    simp [is_zone_ok h1, gAll, lstOf, blsOf]
    exact q
  | [a, b], h, _ =>
    have h1 := h a (by simp)
    have h2 := h b (by simp)
    simp [zonesD, isTn, wipeD]
    rw [lcAQ_fix (n := 2) (ds := [zoneD a.1 a.2, zoneD b.1 b.2]) (.inl rfl) rfl]
    simp [is_zone_ok h1, is_zone_ok h2, gAll, lstOf, blsOf]
    exact q
  | _ :: _ :: _ :: _, _, l => simp at l
theorem need_zones_ok (z : ZsOK zs) : m_need_zones [zonesD zs] S = .ok .non S := by
  refine pure_of fun Q q => ?_
  refine does_def rfl ?_
  simp [is_zones_ok z]
  exact q
theorem isEd_does {t : Stp} {ρ : Rho} {i : Nat} (hi : ρ[i]? = some (some t.d)) : ∀ Q : D → Sto → Prop, Q (.bl t.isEd) S → (mOp gEq (mOp gIx (mVar i) (mK (.int 0))) (mK (.str "edition")) ρ S).Does Q := by
  intro Q q
  cases t <;> (simp (decide := true) [hi, Stp.d]; exact q)
theorem is_program_does {Q : D → Sto → Prop} (z : ZsOK zs) (h : ProgOK zs.length ts) (q : Q (.bl true) (S ++ [.lst ((kindsFrom [.mom] ts).map Kd.d)])) : (m_is_program [zonesD zs, progD ts] S).Does Q := by
  have hl := h.len
  have he := h.eds
  refine does_def rfl ?_
  simp [need_zones_ok z, progD, isTn, hl]
  have hl' : ¬ (8 : Int) < ts.length := by omega
  simp [hl']
  refine forL_cut (fun ds ρ S' => ∃ us row x3, ds = (us : List Stp).map Stp.d ∧ ρ = [some (zonesD zs), some (.tup (ts.map Stp.d)), some (.cell S.length), x3] ∧ S' = S ++ [.lst (row.map Kd.d)] ∧ ProgFrom zs.length row us ∧ kindsFrom row us = kindsFrom [.mom] ts ∧ row.length + us.length ≤ 61) _
    ⟨ts, [.mom], _, rfl, rfl, rfl, h.steps, rfl, by simp; omega⟩ ?_ ?_
  · rintro d r ρ S1 ⟨us, row, x2, e, rfl, rfl, hp, hk, hl⟩
    cases us with
    | nil => cases e
    | cons u us =>
      simp at e
      obtain ⟨rfl, rfl⟩ := e
      refine ⟨_, rfl, fun M hM => ?_⟩
      have hn : (S ++ [.lst (row.map Kd.d)])[S.length]? = some (.lst (row.map Kd.d)) := by simp
      have hs := is_step_ok (zs := zs.map fun z => zoneD z.1 z.2) hn (t := u) (by rw [List.length_map]; exact hp.1)
      simp at hl
      simp [zonesD, hs, kind_made_ok hn hp.1]
      refine ⟨by omega, hM _ _ ⟨us, row ++ [u.kind row], _, rfl, rfl, by simp, hp.2, hk, by simp; omega⟩⟩
  · rintro ρ S1 ⟨us, row, x2, e, rfl, rfl, hp, hk, hl⟩
    cases us with
    | cons u us => cases e
    | nil =>
      simp [wipeD]
      try rw [lcAQ_fix (.inl rfl) (by simp)]
      refine lcQ_filter (as := ts) (i := Stp.d) Stp.isEd Stp.d ?_ ?_
      · intro t _
        refine ⟨_, rfl, isEd_does rfl, fun Q _ q => ?_⟩
        simp
        exact q
      · simp
        have : ((ts.filter Stp.isEd).length : Int) < 2 := by omega
        simp [this]
        rw [← hk] at q
        exact q
theorem need_program_does {Q : D → Sto → Prop} (z : ZsOK zs) (h : ProgOK zs.length ts) (q : Q .non (S ++ [.lst ((kindsFrom [.mom] ts).map Kd.d)])) : (m_need_program [zonesD zs, progD ts] S).Does Q := by
  refine does_def rfl ?_
  simp
  refine is_program_does z h ?_
  simp
  exact q
end
end Dm
namespace Dm
open PySem L2
theorem atI_lastL {α : Type} {l : List α} (h : l ≠ []) : ∃ x, x ∈ l ∧ atI l (-1) = some x := by
  have hp : 0 < l.length := List.length_pos_iff.mpr h
  have h1 : (0 : Int) ≤ -1 + (l.length : Int) := by omega
  have h2 : (-1 + (l.length : Int)).toNat = l.length - 1 := by omega
  refine ⟨l[l.length - 1]'(by omega), List.getElem_mem _, ?_⟩
  have h3 : (1 : Int) ≤ l.length := by omega
  simp [atI, ixN, h2, h3]
theorem atI_memL {α : Type} {l : List α} {r : Int} (h0 : 0 ≤ r) (h : r < l.length) : ∃ x, x ∈ l ∧ atI l r = some x := by
  rw [atI_of h0 h]
  have : r.toNat < l.length := by omega
  exact ⟨l[r.toNat], List.getElem_mem _, List.getElem?_eq_getElem this⟩
theorem kd_eq (a b : Kd) : (a.s == b.s) = decide (a = b) := by cases a <;> cases b <;> decide
section
variable {S : Sto} {p n r : Nat} {row : List Kd}
theorem in_row (hr : S[r]? = some (.lst (row.map Kd.d))) (k : Kd) : gIn false S (.str k.s) (.cell r) = some (.bl (decide (k ∈ row))) := by
  unfold gIn
  rw [seqOf_cell hr]
  have h1 : (row.map Kd.d).all flatD = true := by simp [Kd.d, flatD]
  have h2 : ((row.map Kd.d).any fun x => eqF x (.str k.s)) = decide (k ∈ row) := by
    rw [List.any_map]
    have : (fun x => eqF x (.str k.s)) ∘ Kd.d = fun a : Kd => decide (a = k) := by
      funext a
      show eqF (.str a.s) (.str k.s) = _
      show (a.s == k.s) = _
      exact kd_eq a k
    rw [this]
    by_cases c : k ∈ row
    · rw [decide_eq_true c, List.any_eq_true]
      exact ⟨k, c, decide_eq_true rfl⟩
    · rw [decide_eq_false c, List.any_eq_false]
      intro x hx
      simp only [decide_eq_true_eq]
      rintro rfl
      exact c hx
  simp only [h1, h2, flatD_str, and_self, if_true, Bool.false_eq_true, if_false]
theorem stp_py {t : Stp} {nz : Nat} (h : t.OK nz row) : ∃ q, toPy t.d = some q ∧ q.canLay0 = true ∧ q.depth ≤ 1 := by
  cases t with
  | find i p f g =>
    obtain ⟨_, _, hf, hg⟩ := h
    refine ⟨_, rfl, ?_, by simp [PyData.depth, PyData.depthAll]⟩
    rcases hf with rfl | rfl | rfl <;> rcases hg with rfl | rfl | rfl <;> (simp [PyData.canLay0, PyData.canLayAll0]; decide +kernel)
  | _ => exact ⟨_, rfl, by simp [PyData.canLay0, PyData.canLayAll0]; decide +kernel, by simp [PyData.depth, PyData.depthAll]⟩
end
end Dm
namespace Dm
open PySem L2
section
variable {S : Sto} {p n r : Nat} {row : List Kd}
theorem kindsFrom_mem {k : Kd} : ∀ {ts : List Stp} {row : List Kd}, k ∈ row → k ∈ kindsFrom row ts
  | [], _, h => h
  | t :: ts, row, h => kindsFrom_mem (ts := ts) (List.mem_append_left _ h)
end
end Dm
namespace Dm
open PySem L2
noncomputable def Stp.isFind : Stp → Bool
  | .find _ _ _ _ => true
  | _ => false
noncomputable def Stp.isConv : Stp → Bool
  | .find _ _ _ _ => true
  | .read _ _ => true
  | .offset _ _ => true
  | .edition _ _ => true
  | _ => false
section
variable {S : Sto} {p n r : Nat} {row : List Kd}
noncomputable def NW (row : List Kd) (a b c : Int) (w : Str) : Prop := w = "add" ∨ (w = "plus" ∧ Kd.spn ∈ row) ∨ (w = "less" ∧ Kd.spn ∈ row ∧ Kd.rdg ∈ row) ∨ (0 < a ∧ (w = "read" ∨ w = "offset" ∨ (w = "edition" ∧ 0 < c) ∨ (w = "find" ∧ 0 < b ∧ Kd.rdg ∈ row)))
end
end Dm
namespace Dm
open PySem L2
structure PGood (nz : Nat) (row : List Kd) (a b c : Int) (t : Stp) : Prop where
  ok : t.OK nz row
  conv : t.isConv = true → 0 < a
  find : t.isFind = true → 0 < b
  ed : t.isEd = true → 0 < c
section
variable {S : Sto} {p n r : Nat} {row : List Kd} {zs : Zs}
noncomputable def bI (b : Bool) : Int := if b then 1 else 0
noncomputable def cnt (f : Stp → Bool) (ts : List Stp) : Int := ((ts.filter f).length : Int)
theorem cnt_nil {f : Stp → Bool} : cnt f [] = 0 := rfl
theorem cnt_snoc {f : Stp → Bool} {ts : List Stp} {t : Stp} : cnt f (ts ++ [t]) = cnt f ts + bI (f t) := by
  unfold cnt bI
  rw [List.filter_append]
  by_cases h : f t = true
  · simp [h]
  · simp [h]
end
end Dm
namespace Dm
open PySem L2
abbrev Tb := Int × List (Int × Int)
noncomputable def Tb.d (t : Tb) : D := tabD t.1 t.2
noncomputable def Tb.of (t : Tb) (m : Int) : Int := offAt t.1 t.2 m
structure TbsOK (zs : Zs) (tb : List Tb) : Prop where
  len : tb.length = zs.length
  ok : ∀ (p : Nat) (z : List Int × Int) (t : Tb), zs[p]? = some z → tb[p]? = some t → TabOK z.1 z.2 t.1 t.2
noncomputable def getT (tb : List Tb) (p : Nat) : Tb := tb.getD p (0, [])
noncomputable def getZ (zs : Zs) (p : Nat) : List Int × Int := zs.getD p ([], 1)
noncomputable def getV (vs : List Int) (i : Nat) : Int := vs.getD i 0
theorem getV_at {vs : List Int} {i : Nat} (h : i < vs.length) : vs[i]? = some (getV vs i) := by
  unfold getV
  rw [List.getD_eq_getElem?_getD, List.getElem?_eq_getElem h]; rfl
theorem getT_at {tb : List Tb} {i : Nat} (h : i < tb.length) : tb[i]? = some (getT tb i) := by
  unfold getT
  rw [List.getD_eq_getElem?_getD, List.getElem?_eq_getElem h]; rfl
theorem getZ_at {zs : Zs} {i : Nat} (h : i < zs.length) : zs[i]? = some (getZ zs i) := by
  unfold getZ
  rw [List.getD_eq_getElem?_getD, List.getElem?_eq_getElem h]; rfl
theorem TbsOK.tab {zs : Zs} {tb : List Tb} (h : TbsOK zs tb) {p : Nat} (hp : p < zs.length) : TabOK (getZ zs p).1 (getZ zs p).2 (getT tb p).1 (getT tb p).2 :=
  h.ok p _ _ (getZ_at hp) (getT_at (by rw [h.len]; exact hp))
theorem ZsOK.at {zs : Zs} (z : ZsOK zs) {p : Nat} (hp : p < zs.length) : ZoneOK (getZ zs p).1 (getZ zs p).2 := z.all _ (List.mem_of_getElem? (getZ_at hp))
theorem TbsOK.set {zs : Zs} {tb later : List Tb} (h : TbsOK zs tb) (h' : TbsOK zs later) (p : Nat) : TbsOK zs (tb.set p (getT later p)) := by
  refine ⟨by rw [List.length_set]; exact h.len, fun i z t hz ht => ?_⟩
  by_cases e : p = i
  · subst e
    have hp : p < tb.length := by
      have := (List.getElem?_eq_some_iff.mp ht).1
      rw [List.length_set] at this
      exact this
    rw [List.getElem?_set_self hp] at ht
    cases ht
    exact h'.ok p z _ hz (getT_at (by rw [h'.len, ← h.len]; exact hp))
  · rw [List.getElem?_set_ne e] at ht
    exact h.ok i z t hz ht
section
variable {S : Sto} {os : List Int} {s h m r : Int} {js : List (Int × Int)}
@[simp] theorem tgU_jmp {j : Int × Int} {ρ : Rho} {f : List D → Rho → Option Rho} : tgU 2 f (jmpD j) ρ = f [.int j.1, .int j.2] ρ := rfl
@[simp] theorem tgU_zone {ρ : Rho} {f : List D → Rho → Option Rho} : tgU 2 f (zoneD os s) ρ = f [.tup (os.map .int), .int s] ρ := rfl
@[simp] theorem tgU_tab {ρ : Rho} {f : List D → Rho → Option Rho} : tgU 2 f (tabD h js) ρ = f [.int h, .tup (js.map jmpD)] ρ := rfl
noncomputable def findI (ms : List Int) (g : Int × Int) (r : Int) (fold gap : Str) : Option Int := match ms with
  | [m] => some m
  | [m, m'] => if fold = "refuse" then none else if fold = "early" then some m else some m'
  | _ => if gap = "refuse" then none else if gap = "ahead" then some (r - g.1) else some (r - g.2)
end
end Dm
namespace Dm
open PySem L2
noncomputable def loO (os : List Int) : Int := os.headD 0
noncomputable def hiO (os : List Int) : Int := os.getLastD 0
theorem ZoneOK.ends {os : List Int} {s : Int} (z : ZoneOK os s) : Ends2 os s (loO os) (hiO os) := by
  cases z with
  | one a s => exact ⟨rfl, rfl, by simp [loO, hiO]; omega, by simp [loO, hiO], by simp [loO], by simp [hiO]⟩
  | two a b s => exact ⟨rfl, rfl, by simp [loO, hiO]; omega, by simp [loO, hiO]; omega, by simp [loO], by simp [hiO]⟩
  | three a b c s => exact ⟨rfl, rfl, by simp [loO, hiO]; omega, by simp [loO, hiO]; omega, by simp [loO], by simp [hiO]⟩
noncomputable def foundT (z : List Int × Int) (t : Tb) (r : Int) (f g : Str) : Option Int := findI (momsOf z.1 t.1 t.2 r) (t.of (r - hiO z.1), t.of (r - loO z.1)) r f g
noncomputable def stepV (zs : Zs) (tb : List Tb) (vs : List Int) : Stp → Option Int
  | .read i p => some (getV vs i + (getT tb p).of (getV vs i))
  | .find i p f g => foundT (getZ zs p) (getT tb p) (getV vs i) f g
  | .offset i p => some ((getT tb p).of (getV vs i))
  | .edition i _ => some (getV vs i)
  | .plus i j => some (getV vs i + getV vs j)
  | .less i j => some (getV vs i - getV vs j)
  | .add i m => some (getV vs i + m)
noncomputable def askedS (zs : Zs) (vs : List Int) : Stp → List Int
  | .read i _ => [getV vs i]
  | .find i p _ _ => (getZ zs p).1.reverse.map fun o => getV vs i - o
  | .offset i _ => [getV vs i]
  | .edition i _ => [getV vs i - 1]
  | _ => []
noncomputable def Stp.base : Stp → Nat
  | .read i _ => i
  | .find i _ _ _ => i
  | .offset i _ => i
  | .edition i _ => i
  | .plus i _ => i
  | .less i _ => i
  | .add i _ => i
noncomputable def Stp.place : Stp → Nat
  | .read _ p => p
  | .find _ p _ _ => p
  | .offset _ p => p
  | .edition _ p => p
  | _ => 0
theorem Stp.OK.base {nz : Nat} {row : List Kd} {t : Stp} (h : t.OK nz row) : t.base < row.length := by
  cases t with
  | add i m => rcases h.1 with h | h <;> exact (List.getElem?_eq_some_iff.mp h).1
  | _ => exact (List.getElem?_eq_some_iff.mp h.1).1
section
variable {S : Sto} {zs : Zs} {tb : List Tb} {vs : List Int} {row : List Kd} {n c : Nat} {t : Stp}
abbrev Lk := Int × Int × Int × Int
noncomputable def lkD (m : Lk) : D := .tup [.int m.1, .int m.2.1, .int m.2.2.1, .int m.2.2.2]
noncomputable def pushLk (lk : List Lk) (m : Lk) : List Lk := if m ∈ lk then lk else lk ++ [m]
noncomputable def sideOf : Option (Nat × Int) → Nat → Int → Int
  | some (q, m), p, w => if q = p ∧ m ≤ w then 1 else 0
  | none, _, _ => 0
noncomputable def edD : Option (Nat × Int) → List (Key × D)
  | none => []
  | some (q, m) => [(.inl q, .int m)]
end
end Dm
namespace Dm
open PySem L2
section
variable {S : Sto} {zs : Zs} {tb : List Tb} {vs : List Int} {row : List Kd} {n c : Nat} {t : Stp}
inductive Fin where
  | done (vs : List Int)
  | refused (vs : List Int) (k : Nat)
  | unsuited
noncomputable def followS (ag : Tb → Tb → Int → Bool) (zs : Zs) (later : List Tb) : List Tb → Nat → List Int → List Stp → Fin
  | _, _, vs, [] => .done vs
  | tb, k, vs, t :: ts => if t.isEd = true ∧ ag (getT tb t.place) (getT later t.place) (getV vs t.base) = false then .unsuited
    else match stepV zs tb vs t with
      | none => .refused vs k
      | some v => followS ag zs later (if t.isEd = true then tb.set t.place (getT later t.place) else tb) (k + 1) (vs ++ [v]) ts
theorem ed_form {t : Stp} (h : t.isEd = true) : t = .edition t.base t.place := by
  cases t <;> first | rfl | cases h
end
end Dm
namespace Dm
open PySem L2
theorem cnt_cons {f : Stp → Bool} {t : Stp} {ts : List Stp} : cnt f (t :: ts) = bI (f t) + cnt f ts := by
  unfold cnt bI
  by_cases h : f t = true
  · simp [h]; omega
  · simp [h]
theorem cnt_nn {f : Stp → Bool} {ts : List Stp} : 0 ≤ cnt f ts := Int.natCast_nonneg _
section
variable {S : Sto} {zs : Zs} {tb later : List Tb} {vs : List Int} {row : List Kd} {n c : Nat} {t : Stp} {ts : List Stp}
structure Cells (S : Sto) (a : Nat) (tb : List Tb) (ed : Option (Nat × Int)) (vs : List Int) (lk : List Lk) : Prop where
  c4 : S[a]? = some (.lst (tb.map Tb.d))
  c5 : S[a + 1]? = some (.dic (edD ed))
  c6 : S[a + 2]? = some (.lst (vs.map .int))
  c7 : S[a + 3]? = some (.lst (lk.map lkD))
theorem set_at {S : Sto} {n : Nat} {c c' : Cell} (h : S[n]? = some c') : (S.set n c)[n]? = some c := List.getElem?_set_self (List.getElem?_eq_some_iff.mp h).1
theorem Cells.val {S : Sto} {a : Nat} {tb : List Tb} {ed : Option (Nat × Int)} {vs : List Int} {lk : List Lk} (h : Cells S a tb ed vs lk) (vs' : List Int) : Cells (S.set (a + 2) (.lst (vs'.map .int))) a tb ed vs' lk :=
  ⟨by rw [List.getElem?_set_ne (by omega)]; exact h.c4, by rw [List.getElem?_set_ne (by omega)]; exact h.c5, set_at h.c6, by rw [List.getElem?_set_ne (by omega)]; exact h.c7⟩
noncomputable def markS (org : Int) (tb : List Tb) (ed : Option (Nat × Int)) (t : Stp) (w : Int) : Lk := ((t.place : Int), sideOf ed t.place w, w - org, offAt (getT tb t.place).1 (getT tb t.place).2 w)
noncomputable def addL (org : Int) (tb : List Tb) (ed : Option (Nat × Int)) (t : Stp) (lk : List Lk) (ws : List Int) : List Lk := ws.foldl (fun lk w => pushLk lk (markS org tb ed t w)) lk
noncomputable def followL (ag : Tb → Tb → Int → Bool) (zs : Zs) (later : List Tb) (org : Int) : List Tb → Option (Nat × Int) → Nat → List Int → List Lk → List Stp → Fin × List Lk
  | _, _, _, vs, lk, [] => (.done vs, lk)
  | tb, ed, k, vs, lk, t :: ts => if t.isEd = true ∧ ag (getT tb t.place) (getT later t.place) (getV vs t.base) = false then (.unsuited, addL org tb ed t lk (askedS zs vs t))
    else match stepV zs tb vs t with
      | none => (.refused vs k, addL org tb ed t lk (askedS zs vs t))
      | some v => followL ag zs later org (if t.isEd = true then tb.set t.place (getT later t.place) else tb) (if t.isEd = true then some (t.place, getV vs t.base) else ed) (k + 1) (vs ++ [v]) (addL org tb ed t lk (askedS zs vs t)) ts
theorem followL_fst {ag : Tb → Tb → Int → Bool} {org : Int} : ∀ {ts : List Stp} {tb : List Tb} {ed : Option (Nat × Int)} {k : Nat} {vs : List Int} {lk : List Lk}, (followL ag zs later org tb ed k vs lk ts).1 = followS ag zs later tb k vs ts
  | [], _, _, _, _, _ => rfl
  | t :: ts, tb, ed, k, vs, lk => by
    rw [followL, followS]
    split
    · rfl
    · cases stepV zs tb vs t with
      | none => rfl
      | some v => exact followL_fst
end
end Dm
namespace Dm
open PySem L2
section
variable {S : Sto} {zs : Zs} {tb later : List Tb} {vs : List Int} {row : List Kd} {n c : Nat} {t : Stp} {ts : List Stp}
noncomputable def aheadJ (js : List (Int × Int)) (m : Int) : List (Int × Int) := js.filter fun j => decide (j.1 < m)
noncomputable def agP (a b : Tb) (m : Int) : Bool := decide (a.1 = b.1 ∧ aheadJ a.2 m = aheadJ b.2 m)
end
end Dm
namespace Dm
open PySem L2
@[simp] theorem does_raise {c : Str} {ρ : Rho} {S : Sto} {N B C : Rho → Sto → Prop} {R : D → Sto → Prop} {EO : EXO} : (mRaise c ρ S).DoesE EO N R B C = EO c [] ρ S := rfl
@[simp] theorem does_raiseX {c : Str} {ns : List Str} {ma : MA} {ρ : Rho} {S : Sto} {N B C : Rho → Sto → Prop} {R : D → Sto → Prop} {EO : EXO} : (mRaiseX c ns ma ρ S).DoesE EO N R B C = (ma ρ S).DoesE (eAt EO ρ) fun ds S1 => ds.length = ns.length ∧ EO c (ns.zip ds).reverse ρ S1 := by
  unfold mRaiseX
  rw [does_ofRes]; congr 1; funext ds S1
  by_cases h : ds.length = ns.length
  · rw [if_pos h]; simp [h, Out.DoesE]
  · rw [if_neg h]; simp [h, Out.DoesE]
end Dm
namespace Dm
open PySem L2
end Dm
namespace Dm
open PySem L2
section
variable {S : Sto} {p n : Nat} {os : List Int} {s : Int} {zs : Zs} {ts : List Stp}
theorem TbsOK.cons {z : List Int × Int} {t : Tb} {zs : Zs} {tb : List Tb} (h : TabOK z.1 z.2 t.1 t.2) (k : TbsOK zs tb) : TbsOK (z :: zs) (t :: tb) := by
  refine ⟨by simp [k.len], fun p z' t' hz ht => ?_⟩
  cases p with
  | zero =>
    simp at hz ht
    subst hz ht
    exact h
  | succ p =>
    simp at hz ht
    exact k.ok p z' t' hz ht
noncomputable def VB (row : List Kd) (vs : List Int) : Prop := row.length = vs.length ∧ ∀ (i : Nat) (v : Int) (k : Kd), vs[i]? = some v → row[i]? = some k → (-(2000000000000 + 200000 * (i : Int)) ≤ v ∧ v ≤ 2000000000000 + 200000 * i) ∧ (k = .spn → -900 ≤ v ∧ v ≤ 900)
theorem VB.at {row : List Kd} {vs : List Int} (h : VB row vs) {i : Nat} {k : Kd} (hi : row[i]? = some k) : (-(2000000000000 + 200000 * (i : Int)) ≤ getV vs i ∧ getV vs i ≤ 2000000000000 + 200000 * i) ∧ (k = .spn → -900 ≤ getV vs i ∧ getV vs i ≤ 900) ∧ i < vs.length := by
  have hl := (List.getElem?_eq_some_iff.mp hi).1
  rw [h.1] at hl
  exact ⟨(h.2 i _ k (getV_at hl) hi).1, (h.2 i _ k (getV_at hl) hi).2, hl⟩
theorem int_short {i : Int} (h : i.natAbs < 100000000000000) : (PyData.shown (.int i)).length ≤ 15 := by
  have e := int_text_length_le10 (k := 14) (by decide) h
  show (Str.ofString (toString i)).length ≤ 15
  rw [ofString_length]; exact e
end
end Dm
namespace Dm
open PySem L2
section
variable {os : List Int} {s m : Int}
theorem chain_gt (hs : 0 < s) : ∀ {js : List (Int × Int)} {h p : Int}, Chain os s h (some p) js → ∀ j, j ∈ js → p < j.1
  | (t, o) :: r, h, p, ⟨_, _, c, d⟩, j, hj => by
    have := c p rfl
    rcases List.mem_cons.mp hj with rfl | hj
    · simp only; omega
    · have := chain_gt hs d j hj
      omega
theorem ahead_nil (hs : 0 < s) {t o h : Int} {p : Option Int} {r : List (Int × Int)} (c : Chain os s h p ((t, o) :: r)) (ht : ¬ t < m) : aheadJ ((t, o) :: r) m = [] := by
  unfold aheadJ
  rw [List.filter_eq_nil_iff]
  intro j hj
  rcases List.mem_cons.mp hj with rfl | hj
  · simp only [decide_eq_true_eq]; omega
  · have := chain_gt hs c.2.2.2 j hj
    simp only [decide_eq_true_eq]; omega
theorem ahead_cons {t o : Int} {r : List (Int × Int)} (ht : t < m) : aheadJ ((t, o) :: r) m = (t, o) :: aheadJ r m := by
  unfold aheadJ
  rw [List.filter_cons, if_pos (decide_eq_true ht)]
theorem off_ahead (hs : 0 < s) {e : Int} (he : e < m) : ∀ {js : List (Int × Int)} {h : Int} {p : Option Int}, Chain os s h p js → offAt h js e = offAt h (aheadJ js m) e
  | [], _, _, _ => rfl
  | (t, o) :: r, h, p, c => by
    by_cases ht : t < m
    · rw [ahead_cons ht, offAt, offAt, off_ahead hs he c.2.2.2]
    · rw [show offAt h ((t, o) :: r) e = h by rw [offAt, if_pos (by omega)], ahead_nil hs c ht]; rfl
end
end Dm
namespace Dm
open PySem L2
section
variable {ρ : Rho} {S : Sto} {N B C : Rho → Sto → Prop} {R : D → Sto → Prop} {EO : EXO}
@[simp] theorem does_try {cs : List Str} {hs : List (Str × Option Nat × MS)} {mb : MS} : (mTry cs hs mb ρ S).DoesE EO N R B C = (mb ρ S).DoesE (fun c fs ρ1 S1 => ∃ ns, intFsOf fs = some ns ∧ c ∈ cs ∧ (catchD c fs ns hs ρ1 S1).DoesE EO N R B C) N R B C := by
  unfold mTry
  cases mb ρ S with
  | exc c fs ρ1 S1 =>
    simp only [Out.DoesE]
    cases e : intFsOf fs with
    | none => simp [Out.DoesE, e]
    | some ns =>
      by_cases h : c ∈ cs
      · simp [h, e, Out.DoesE]
      · simp [h, e, Out.DoesE]
  | _ => rfl
@[simp] theorem catch_nil {c : Str} {fs : List (Str × D)} {ns : List (Str × Int)} : (catchD c fs ns [] ρ S).DoesE EO N R B C = EO c fs ρ S := rfl
@[simp] theorem catch_cons {c h : Str} {fs : List (Str × D)} {ns : List (Str × Int)} {oi : Option Nat} {ms : MS} {r : List (Str × Option Nat × MS)} : (catchD c fs ns ((h, oi, ms) :: r) ρ S).DoesE EO N R B C =
    if xSub c h = true then (ms (setI oi ρ (.exn c ns)) S).DoesE (fun _ _ _ _ => False) (fun ρ S => N (clearI oi ρ) S) R (fun ρ S => B (clearI oi ρ) S) (fun ρ S => C (clearI oi ρ) S) else (catchD c fs ns r ρ S).DoesE EO N R B C := by
  rw [catchD]
  by_cases h : xSub c h = true
  · simp only [if_pos h]
    cases ms (setI oi ρ (.exn c ns)) S <;> rfl
  · simp only [if_neg h]
theorem gXf_exn {c f : Str} {fs : List (Str × Int)} (h : isMkd fs = false) : gXf c f S (.exn c fs) = (fs.lookup f).map D.int := by simp [gXf, h]
@[simp] theorem gXf_exn1 {c f a : Str} {i : Int} : gXf c f S (.exn c [(a, i)]) = (([(a, i)] : List (Str × Int)).lookup f).map D.int := gXf_exn rfl
end
end Dm
namespace Dm
open PySem L2
noncomputable def mvJ (d : Int) (j : Int × Int) : Int × Int := (j.1 + d, j.2)
noncomputable def mvT (d : Int) (t : Tb) : Tb := (t.1, t.2.map (mvJ d))
noncomputable def mvK (d : Int) (k : Kd) : Int := if k = .spn then 0 else d
noncomputable def mvV (d : Int) (row : List Kd) (vs : List Int) : List Int := List.zipWith (fun k v => v + mvK d k) row vs
section
variable {d m : Int} {zs : Zs} {tb later : List Tb} {row : List Kd} {vs : List Int} {t : Stp}
theorem getV_mv {i : Nat} {k : Kd} (hl : row.length = vs.length) (hk : row[i]? = some k) : getV (mvV d row vs) i = getV vs i + mvK d k := by
  have hi := (List.getElem?_eq_some_iff.mp hk).1
  have hv := getV_at (vs := vs) (i := i) (by omega)
  unfold getV mvV
  rw [List.getD_eq_getElem?_getD, List.getElem?_zipWith, hk, hv]
  rfl
theorem mvV_snoc {k : Kd} {v : Int} (hl : row.length = vs.length) : mvV d (row ++ [k]) (vs ++ [v]) = mvV d row vs ++ [v + mvK d k] := by
  unfold mvV
  rw [List.zipWith_append hl]; rfl
theorem findI_mv {ms : List Int} {g : Int × Int} {r : Int} {f p : Str} : findI (ms.map (· + d)) g (r + d) f p = (findI ms g r f p).map (· + d) := by
  have gap : (if p = "refuse" then none else if p = "ahead" then some (r + d - g.1) else some (r + d - g.2)) = (if p = "refuse" then none else if p = "ahead" then some (r - g.1) else some (r - g.2)).map (· + d) := by
    split
    · rfl
    · split <;> (simp only [Option.map_some]; congr 1; omega)
  match ms with
  | [] => exact gap
  | [m] => rfl
  | [m, m'] =>
    show (if f = "refuse" then none else if f = "early" then some (m + d) else some (m' + d)) = (if f = "refuse" then none else if f = "early" then some m else some m').map (· + d)
    split
    · rfl
    · split <;> rfl
  | a :: b :: c :: r => exact gap
theorem chain_mv {os : List Int} {s : Int} : ∀ {js : List (Int × Int)} {h : Int} {p : Option Int}, Chain os s h p js → Chain os s h (p.map (· + d)) (js.map (mvJ d))
  | [], _, _, _ => trivial
  | (m, o) :: r, h, p, ⟨a, b, c, e⟩ => by
    refine ⟨a, b, ?_, chain_mv (p := some m) e⟩
    intro q hq
    cases p with
    | none => cases hq
    | some p =>
      have hq : p + d = q := by injection hq
      have := c p rfl
      show q + s ≤ m + d
      omega
theorem TbsOK.mv (tk : TbsOK zs tb) : TbsOK zs (tb.map (mvT d)) := by
  refine ⟨by rw [List.length_map]; exact tk.len, fun p z t hz ht => ?_⟩
  rw [List.getElem?_map] at ht
  cases e : tb[p]? with
  | none => rw [e] at ht; cases ht
  | some t0 =>
    rw [e] at ht
    cases ht
    have := tk.ok p z t0 hz e
    exact ⟨this.held, chain_mv this.chain⟩
variable {S : Sto} {n : Nat} {ts : List Stp}
noncomputable def dueD (b : Nat) (S : Sto) : Fin → D → Prop
  | .done vs, e => ∃ n, b ≤ n ∧ e = .tup [.str "", .cell n] ∧ S[n]? = some (.lst (vs.map .int))
  | .refused _ k, e => e = .tup [.str "refused", .int k]
  | .unsuited, e => e = .tup [.str "unsuited", .non]
theorem dueD.go {b p : Nat} {S S' : Sto} {f : Fin} {e : D} (h : dueD b S f e) (g : GoB p S S') (hp : p < b) : dueD b S' f e := by
  cases f with
  | done vs =>
    obtain ⟨n, hn, rfl, hc⟩ := h
    exact ⟨n, hn, rfl, g.get hc (by omega)⟩
  | refused vs k => exact h
  | unsuited => exact h
end
end Dm
namespace Dm
open PySem L2
end Dm
namespace Dm
open PySem L2
end Dm
namespace Dm
open PySem L2
end Dm
namespace Dm
open PySem L2
section
variable {d m : Int} {zs : Zs} {tb tb2 later later2 : List Tb} {row : List Kd} {vs : List Int} {t : Stp}
theorem agP_of {os : List Int} {s : Int} {a b : Tb} (hs : 0 < s) (ta : TabOK os s a.1 a.2) (tb : TabOK os s b.1 b.2) (h : agP a b m = true) {e : Int} (he : e < m) : a.of e = b.of e := by
  obtain ⟨h1, h2⟩ := of_decide_eq_true h
  unfold Tb.of
  rw [off_ahead hs he ta.chain, off_ahead hs he tb.chain, h1, h2]
theorem moms_like {os : List Int} {t t2 : Tb} {r : Int} (h : ∀ o, o ∈ os → t2.of (r - o + d) = t.of (r - o)) : momsOf os t2.1 t2.2 (r + d) = (momsOf os t.1 t.2 r).map (· + d) := by
  unfold momsOf
  rw [List.map_map]
  have : (os.reverse.filter fun o => offAt t2.1 t2.2 (r + d - o) == o) = os.reverse.filter fun o => offAt t.1 t.2 (r - o) == o := by
    refine List.filter_congr fun o ho => ?_
    have e : r + d - o = (r - o) + d := by omega
    rw [e]
    have := h o (List.mem_reverse.mp ho)
    unfold Tb.of at this
    rw [this]
  rw [this]
  refine List.map_congr_left fun o _ => ?_
  show r + d - o = r - o + d
  omega
theorem step_like (z : ZsOK zs) (h : t.OK zs.length row) (hl : row.length = vs.length) (hw : ∀ w, w ∈ askedS zs vs t → (getT tb2 t.place).of (w + d) = (getT tb t.place).of w) :
    stepV zs tb2 (mvV d row vs) t = (stepV zs tb vs t).map (· + mvK d (t.kind row)) := by
  have e1 : mvK d .mom = d := rfl
  have e2 : mvK d .rdg = d := rfl
  have e3 : mvK d .spn = 0 := rfl
  cases t with
  | read i p =>
    have e := getV_mv (d := d) hl h.1
    rw [e1] at e
    have hh : (getT tb2 p).of (getV vs i + d) = (getT tb p).of (getV vs i) := hw (getV vs i) (by simp [askedS])
    show some (getV (mvV d row vs) i + (getT tb2 p).of (getV (mvV d row vs) i)) = some (getV vs i + (getT tb p).of (getV vs i) + d)
    rw [e, hh]
    congr 1; omega
  | find i p f g =>
    have e := getV_mv (d := d) hl h.1
    rw [e2] at e
    have hp := h.2.1
    have zp := z.at hp
    have E := zp.ends
    have hh : ∀ o, o ∈ (getZ zs p).1 → (getT tb2 p).of (getV vs i - o + d) = (getT tb p).of (getV vs i - o) := fun o ho => hw _ (List.mem_map.mpr ⟨o, List.mem_reverse.mpr ho, rfl⟩)
    show findI (momsOf (getZ zs p).1 (getT tb2 p).1 (getT tb2 p).2 (getV (mvV d row vs) i)) ((getT tb2 p).of (getV (mvV d row vs) i - hiO (getZ zs p).1), (getT tb2 p).of (getV (mvV d row vs) i - loO (getZ zs p).1)) (getV (mvV d row vs) i) f g = (findI (momsOf (getZ zs p).1 (getT tb p).1 (getT tb p).2 (getV vs i)) ((getT tb p).of (getV vs i - hiO (getZ zs p).1), (getT tb p).of (getV vs i - loO (getZ zs p).1)) (getV vs i) f g).map (· + d)
    rw [e, moms_like hh, findI_mv]
    have a1 : getV vs i + d - hiO (getZ zs p).1 = getV vs i - hiO (getZ zs p).1 + d := by omega
    have a2 : getV vs i + d - loO (getZ zs p).1 = getV vs i - loO (getZ zs p).1 + d := by omega
    rw [a1, a2, hh _ E.mb, hh _ E.ma]
  | offset i p =>
    have e := getV_mv (d := d) hl h.1
    rw [e1] at e
    have hh : (getT tb2 p).of (getV vs i + d) = (getT tb p).of (getV vs i) := hw (getV vs i) (by simp [askedS])
    show some ((getT tb2 p).of (getV (mvV d row vs) i)) = some ((getT tb p).of (getV vs i) + 0)
    rw [e, hh, Int.add_zero]
  | edition i p =>
    have e := getV_mv (d := d) hl h.1
    exact congrArg some e
  | plus i j =>
    have e := getV_mv (d := d) hl h.1
    have e' := getV_mv (d := d) hl h.2
    rw [e1] at e
    rw [e3] at e'
    show some (getV (mvV d row vs) i + getV (mvV d row vs) j) = some (getV vs i + getV vs j + d)
    rw [e, e']
    congr 1; omega
  | less i j =>
    have e := getV_mv (d := d) hl h.1
    have e' := getV_mv (d := d) hl h.2
    rw [e2] at e
    rw [e3] at e'
    show some (getV (mvV d row vs) i - getV (mvV d row vs) j) = some (getV vs i - getV vs j + d)
    rw [e, e']
    congr 1; omega
  | add i m =>
    obtain ⟨k, hk⟩ : ∃ k, row[i]? = some k := by rcases h.1 with h | h <;> exact ⟨_, h⟩
    have e := getV_mv (d := d) hl hk
    have ek : Stp.kind row (.add i m) = k := by
      show row.getD i .mom = k
      rw [List.getD_eq_getElem?_getD, hk]; rfl
    rw [ek]
    show some (getV (mvV d row vs) i + m) = some (getV vs i + m + mvK d k)
    rw [e]
    congr 1; omega
theorem asked_mv (h : t.OK zs.length row) (hl : row.length = vs.length) : askedS zs (mvV d row vs) t = (askedS zs vs t).map (· + d) := by
  have e1 : mvK d .mom = d := rfl
  have e2 : mvK d .rdg = d := rfl
  cases t with
  | read i p =>
    have e := getV_mv (d := d) hl h.1
    rw [e1] at e
    show [getV (mvV d row vs) i] = [getV vs i + d]
    rw [e]
  | find i p f g =>
    have e := getV_mv (d := d) hl h.1
    rw [e2] at e
    show (getZ zs p).1.reverse.map (fun o => getV (mvV d row vs) i - o) = ((getZ zs p).1.reverse.map fun o => getV vs i - o).map (· + d)
    rw [e, List.map_map]
    refine List.map_congr_left fun o _ => ?_
    show getV vs i + d - o = getV vs i - o + d
    omega
  | offset i p =>
    have e := getV_mv (d := d) hl h.1
    rw [e1] at e
    show [getV (mvV d row vs) i] = [getV vs i + d]
    rw [e]
  | edition i p =>
    have e := getV_mv (d := d) hl h.1
    rw [e1] at e
    show [getV (mvV d row vs) i - 1] = [getV vs i - 1 + d]
    rw [e]
    congr 1; omega
  | plus i j => rfl
  | less i j => rfl
  | add i m => rfl
variable {org : Int} {ed : Option (Nat × Int)} {lk : List Lk} {ws : List Int}
theorem push_mem {m x : Lk} : x ∈ pushLk lk m ↔ x ∈ lk ∨ x = m := by
  unfold pushLk
  split
  · rename_i h
    constructor
    · exact .inl
    · rintro (h2 | rfl)
      · exact h2
      · exact h
  · simp
theorem addL_mono {x : Lk} (h : x ∈ lk) : x ∈ addL org tb ed t lk ws := by
  unfold addL
  induction ws generalizing lk with
  | nil => exact h
  | cons w ws ih => exact ih (push_mem.mpr (.inl h))
theorem addL_mem {w : Int} (h : w ∈ ws) : markS org tb ed t w ∈ addL org tb ed t lk ws := by
  induction ws generalizing lk with
  | nil => cases h
  | cons u ws ih =>
    rcases List.mem_cons.mp h with rfl | h
    · exact addL_mono (lk := pushLk lk (markS org tb ed t w)) (push_mem.mpr (.inr rfl))
    · exact ih (lk := pushLk lk (markS org tb ed t u)) h
theorem followL_mono {ag : Tb → Tb → Int → Bool} {x : Lk} : ∀ {ts : List Stp} {tb : List Tb} {ed : Option (Nat × Int)} {k : Nat} {vs : List Int} {lk : List Lk}, x ∈ lk → x ∈ (followL ag zs later org tb ed k vs lk ts).2
  | [], _, _, _, _, _, h => h
  | t :: ts, tb, ed, k, vs, lk, h => by
    rw [followL]
    split
    · exact addL_mono h
    · cases stepV zs tb vs t with
      | none => exact addL_mono h
      | some v => exact followL_mono (addL_mono h)
noncomputable def mvE (d : Int) : Option (Nat × Int) → Option (Nat × Int)
  | some (q, m) => some (q, m + d)
  | none => none
theorem side_mv {p : Nat} {w : Int} : sideOf (mvE d ed) p (w + d) = sideOf ed p w := by
  cases ed with
  | none => rfl
  | some x =>
    obtain ⟨q, m⟩ := x
    show (if q = p ∧ m + d ≤ w + d then (1 : Int) else 0) = if q = p ∧ m ≤ w then 1 else 0
    by_cases h : q = p ∧ m ≤ w
    · rw [if_pos h, if_pos ⟨h.1, by omega⟩]
    · rw [if_neg h, if_neg (fun h2 => h ⟨h2.1, by omega⟩)]
theorem addL_like (h : ∀ w, w ∈ ws → (getT tb2 t.place).of (w + d) = (getT tb t.place).of w) : addL (org + d) tb2 (mvE d ed) t lk (ws.map (· + d)) = addL org tb ed t lk ws := by
  induction ws generalizing lk with
  | nil => rfl
  | cons w ws ih =>
    have e : markS (org + d) tb2 (mvE d ed) t (w + d) = markS org tb ed t w := by
      unfold markS
      rw [side_mv]
      have := h w List.mem_cons_self
      unfold Tb.of at this
      rw [this, show w + d - (org + d) = w - org by omega]
    have := ih (lk := pushLk lk (markS org tb ed t w)) fun w hw => h w (List.mem_cons_of_mem _ hw)
    show addL (org + d) tb2 (mvE d ed) t (pushLk lk (markS (org + d) tb2 (mvE d ed) t (w + d))) (ws.map (· + d)) = addL org tb ed t (pushLk lk (markS org tb ed t w)) ws
    rw [e, this]
noncomputable def curT (ed : Option (Nat × Int)) (a b : List Tb) (p : Nat) : Tb := match ed with
  | some (q, _) => if q = p then getT b p else getT a p
  | none => getT a p
noncomputable def LikeM (org : Int) (a b : List Tb) (x : Lk) : Prop := ∀ p : Nat, x.1 = p → (x.2.1 = 0 → (getT a p).of (x.2.2.1 + org) = x.2.2.2) ∧ (x.2.1 = 1 → (getT b p).of (x.2.2.1 + org) = x.2.2.2)
noncomputable def mvF (d : Int) (row : List Kd) : Fin → Fin
  | .done vs => .done (mvV d row vs)
  | .refused vs k => .refused (mvV d row vs) k
  | .unsuited => .unsuited
theorem kinds_more : ∀ {ts : List Stp} {row : List Kd}, ∃ more, kindsFrom row ts = row ++ more
  | [], row => ⟨[], (List.append_nil _).symm⟩
  | t :: ts, row => by
    obtain ⟨m, e⟩ := kinds_more (ts := ts) (row := row ++ [t.kind row])
    exact ⟨t.kind row :: m, by show kindsFrom (row ++ [t.kind row]) ts = _; rw [e]; simp⟩
theorem mvV_more {ts : List Stp} (hl : row.length = vs.length) : mvV d (kindsFrom row ts) vs = mvV d row vs := by
  obtain ⟨m, e⟩ := kinds_more (ts := ts) (row := row)
  rw [e]
  unfold mvV
  have := List.zipWith_append (f := fun k v => v + mvK d k) (l₁' := m) (l₂' := []) hl
  rw [List.append_nil] at this
  rw [this]
  simp
theorem replay (z : ZsOK zs) (tk2 : TbsOK zs tb2) (tl2 : TbsOK zs later2) : ∀ {ts : List Stp} {tbc tbc2 : List Tb} {ed : Option (Nat × Int)} {row : List Kd} {vs : List Int} {lk : List Lk} {k : Nat},
    ProgFrom zs.length row ts → row.length = vs.length → (∀ p, p < zs.length → getT tbc2 p = curT ed tb2 later2 p) → tbc2.length = zs.length → (∀ q m, ed = some (q, m) → q < zs.length ∧ agP (getT tb2 q) (getT later2 q) (m + d) = true) → (ed = none ∨ cnt Stp.isEd ts ≤ 0) → cnt Stp.isEd ts ≤ 1 →
    (∀ x, x ∈ (followL agP zs later org tbc ed k vs lk ts).2 → LikeM (org + d) tb2 later2 x) → (followL agP zs later org tbc ed k vs lk ts).1 ≠ .unsuited →
    (∀ pre i p post, ts = pre ++ .edition i p :: post → ∀ vs', followS agP zs later tbc k vs pre = .done vs' → agP (getT tb2 p) (getT later2 p) (getV vs' i + d) = true) →
    followL agP zs later2 (org + d) tbc2 (mvE d ed) k (mvV d row vs) lk ts = (mvF d (kindsFrom row ts) (followL agP zs later org tbc ed k vs lk ts).1, (followL agP zs later org tbc ed k vs lk ts).2)
  | [], tbc, tbc2, ed, row, vs, lk, k, hp, hl, hc, hc2, he, hE, hE1, hL, hu, hS => rfl
  | t :: ts, tbc, tbc2, ed, row, vs, lk, k, hp, hl, hc, hc2, he, hE, hE1, hL, hu, hS => by
    have ok := hp.1
    have sub : ∀ x, x ∈ addL org tbc ed t lk (askedS zs vs t) → x ∈ (followL agP zs later org tbc ed k vs lk (t :: ts)).2 := by
      intro x hx
      rw [followL]
      split
      · exact hx
      · cases stepV zs tbc vs t with
        | none => exact hx
        | some v => exact followL_mono hx
    have like : ∀ w, w ∈ askedS zs vs t → (getT tbc2 t.place).of (w + d) = (getT tbc t.place).of w := by
      intro w hw
      have hpl : t.place < zs.length := by
        cases t with
        | read i p => exact ok.2
        | find i p f g => exact ok.2.1
        | offset i p => exact ok.2
        | edition i p => exact ok.2
        | plus i j => cases hw
        | less i j => cases hw
        | add i m => cases hw
      obtain ⟨h0, h1⟩ := hL _ (sub _ (addL_mem hw)) t.place rfl
      have ew : (markS org tbc ed t w).2.2.1 + (org + d) = w + d := by show w - org + (org + d) = w + d; omega
      rw [ew] at h0 h1
      have h0' : sideOf ed t.place w = 0 → (getT tb2 t.place).of (w + d) = (getT tbc t.place).of w := h0
      have h1' : sideOf ed t.place w = 1 → (getT later2 t.place).of (w + d) = (getT tbc t.place).of w := h1
      rw [hc _ hpl]
      cases hed : ed with
      | none =>
        refine h0' ?_
        rw [hed]; rfl
      | some x =>
        obtain ⟨q, m⟩ := x
        show (if q = t.place then getT later2 t.place else getT tb2 t.place).of (w + d) = _
        by_cases hq : q = t.place
        · rw [if_pos hq]
          by_cases hm : m ≤ w
          · refine h1' ?_
            rw [hed]
            show (if q = t.place ∧ m ≤ w then (1 : Int) else 0) = 1
            rw [if_pos ⟨hq, hm⟩]
          · have a0 := (he q m hed).2
            rw [hq] at a0
            have hs := (z.at hpl).sp
            rw [← agP_of (s := (getZ zs t.place).2) (by omega) (tk2.tab hpl) (tl2.tab hpl) a0 (e := w + d) (by omega)]
            refine h0' ?_
            rw [hed]
            show (if q = t.place ∧ m ≤ w then (1 : Int) else 0) = 0
            rw [if_neg (fun h => hm h.2)]
        · rw [if_neg hq]
          refine h0' ?_
          rw [hed]
          show (if q = t.place ∧ m ≤ w then (1 : Int) else 0) = 0
          rw [if_neg (fun h => hq h.1)]
    have hst := step_like (d := d) (tb := tbc) (tb2 := tbc2) z ok hl like
    have hlk : addL (org + d) tbc2 (mvE d ed) t lk (askedS zs (mvV d row vs) t) = addL org tbc ed t lk (askedS zs vs t) := by
      rw [asked_mv ok hl]
      exact addL_like like
    have kf : kindsFrom row (t :: ts) = kindsFrom (row ++ [t.kind row]) ts := rfl
    by_cases hEd : t.isEd = true
    · obtain ⟨i, p, rfl⟩ : ∃ i p, t = .edition i p := ⟨_, _, ed_form hEd⟩
      have hed : ed = none := by
        rcases hE with h | h
        · exact h
        · rw [cnt_cons] at h
          have : bI (Stp.isEd (.edition i p)) = 1 := rfl
          have := cnt_nn (f := Stp.isEd) (ts := ts)
          omega
      subst hed
      have hp2 : p < zs.length := ok.2
      have hgv := getV_mv (d := d) hl ok.1
      have e1 : mvK d .mom = d := rfl
      rw [e1] at hgv
      have ha2 := hS [] i p ts rfl vs rfl
      have hc0 : getT tbc2 p = getT tb2 p := hc p hp2
      rw [followL] at hu hL
      rw [followL, followL]
      simp only [Stp.isEd, Stp.place, Stp.base, true_and, if_true, stepV, hlk] at hu hL ⊢
      by_cases ca : agP (getT tbc p) (getT later p) (getV vs i) = false
      · rw [if_pos ca] at hu
        exact absurd rfl hu
      · rw [if_neg ca] at hu hL ⊢
        rw [hc0, hgv, ha2, if_neg (by decide)]
        have hv := mvV_snoc (d := d) (k := Kd.mom) (v := getV vs i) hl
        rw [e1] at hv
        rw [← hv, kf]
        have hkd : Stp.kind row (.edition i p) = .mom := rfl
        rw [hkd]
        refine replay z tk2 tl2 (ed := some (p, getV vs i)) (row := row ++ [Kd.mom]) (by have := hp.2; rw [hkd] at this; exact this) (by simp [hl]) (fun p' hp' => ?_) (by rw [List.length_set]; exact hc2) (fun q m h => ?_) (.inr ?_) ?_ hL hu ?_
        · show getT (tbc2.set p (getT later2 p)) p' = if p = p' then getT later2 p' else getT tb2 p'
          unfold getT
          rw [List.getD_eq_getElem?_getD]
          by_cases e : p = p'
          · subst e
            rw [if_pos rfl, List.getElem?_set_self (by omega)]; rfl
          · rw [if_neg e, List.getElem?_set_ne e, ← List.getD_eq_getElem?_getD]
            exact hc p' hp'
        · cases h
          exact ⟨hp2, ha2⟩
        · rw [cnt_cons] at hE1
          have : bI (Stp.isEd (.edition i p)) = 1 := rfl
          omega
        · rw [cnt_cons] at hE1
          have : bI (Stp.isEd (.edition i p)) = 1 := rfl
          omega
        · intro pre j q post e vs' h
          exfalso
          rw [e] at hE1
          have h1 : cnt Stp.isEd (Stp.edition i p :: (pre ++ Stp.edition j q :: post)) = 1 + (cnt Stp.isEd pre + (1 + cnt Stp.isEd post)) := by
            rw [cnt_cons]
            have h2 : cnt Stp.isEd (pre ++ Stp.edition j q :: post) = cnt Stp.isEd pre + (1 + cnt Stp.isEd post) := by
              unfold cnt
              rw [List.filter_append, List.filter_cons]
              simp [Stp.isEd]
              omega
            rw [h2]; rfl
          rw [h1] at hE1
          have := cnt_nn (f := Stp.isEd) (ts := pre)
          have := cnt_nn (f := Stp.isEd) (ts := post)
          omega
    · have hEd' : t.isEd = false := by simpa using hEd
      have f : ∀ (l : List Tb) (o : Int) (tb : List Tb) (ed : Option (Nat × Int)) (vs : List Int), followL agP zs l o tb ed k vs lk (t :: ts) = match stepV zs tb vs t with
          | none => (.refused vs k, addL o tb ed t lk (askedS zs vs t))
          | some v => followL agP zs l o tb ed (k + 1) (vs ++ [v]) (addL o tb ed t lk (askedS zs vs t)) ts := by
        intro l o tb ed vs
        rw [followL, if_neg (fun h => by rw [hEd'] at h; exact Bool.noConfusion h.1)]
        simp only [hEd']
        rfl
      rw [f] at hu hL
      rw [f, f, hst, hlk]
      cases e : stepV zs tbc vs t with
      | none =>
        show (Fin.refused (mvV d row vs) k, _) = (Fin.refused (mvV d (kindsFrom row (t :: ts)) vs) k, _)
        rw [mvV_more hl]
      | some v =>
        rw [e] at hu hL
        simp only [Option.map_some] at hu hL ⊢
        rw [← mvV_snoc hl, kf]
        refine replay z tk2 tl2 hp.2 (by simp [hl]) hc hc2 he ?_ ?_ hL hu ?_
        · rcases hE with h | h
          · exact .inl h
          · refine .inr ?_
            rw [cnt_cons, hEd'] at h
            have : bI false = 0 := rfl
            omega
        · rw [cnt_cons, hEd'] at hE1
          have : bI false = 0 := rfl
          omega
        · intro pre i p post e2 vs' h
          refine hS (t :: pre) i p post (by rw [e2]; rfl) vs' ?_
          rw [followS, if_neg (fun h => by rw [hEd'] at h; exact Bool.noConfusion h.1), e]
          simp only [hEd']
          exact h
end
end Dm
namespace Dm
open PySem L2
end Dm
namespace Dm
open PySem L2
@[simp] theorem does_callBL {S : Sto} {ρ : Rho} {g : Sto → List D → Option (List D)} {a : MA} {E : EX} {Q : List D → Sto → Prop} : (mCallBL g a ρ S).DoesE E Q = (a ρ S).DoesE E fun xs S1 => match g S1 xs with
    | some z => Q z S1
    | none => False := by
  unfold mCallBL
  rw [does_bind]
  congr 1
  funext x S1
  cases g S1 x <;> rfl
section
variable {S : Sto} {os : List Int} {s m o : Int} {ls : List (Int × Int)} {n p : Nat}
@[simp] theorem gList_looks : gList S [looksD ls] = some (ls.map jmpD) := rfl
@[simp] theorem gList_tup {ds : List D} : gList S [.tup ds] = some ds := rfl
@[simp] theorem gList_lst {ds : List D} : gList S [.lst ds] = some ds := rfl
end
end Dm
namespace Dm
open PySem L2
section
variable {S S1 S2 : Sto} {os : List Int} {s : Int} {n p : Nat}
theorem Go.own {c : Cell} (g1 : Go p S S1) (g2 : Go S1.length (S1 ++ [c]) S2) : Go p S S2 ∧ ∀ n, n < S1.length → S2[n]? = S1[n]? := by
  have old : ∀ n, n < S1.length → S2[n]? = S1[n]? := fun n hn => by
    rw [g2.same n (by rw [List.length_append]; exact Nat.lt_of_lt_of_le hn (Nat.le_add_right _ _)) (by omega), List.getElem?_append_left hn]
  have l2 := g2.len
  rw [List.length_append] at l2
  refine ⟨⟨by have := g1.len; omega, fun n hn hp => ?_, ?_⟩, old⟩
  · rw [old n (Nat.lt_of_lt_of_le hn g1.len)]
    exact g1.same n hn hp
  · obtain ⟨k, e⟩ := g1.pot
    exact ⟨k, by rw [old p g1.pot.lt]; exact e⟩
end
end Dm
namespace Dm
open PySem L2
end Dm
namespace Dm
open PySem L2
end Dm
namespace Dm
open PySem L2
section
variable {S : Sto} {os : List Int} {s h r c d : Int} {js : List (Int × Int)} {fold gap : Str}
@[simp] theorem lcAQ_mapT {f : D → Rho → Option Rho} {mt me : ME} {ρ : Rho} {Q : List D → Sto → Prop} {α : Type} {g : α → D} {as : List α} : LcAQ (.tup (as.map g)) f mt me ρ as.length S Q = LcQ f mt me ρ (as.map g) S Q := lcAQ_fix (.inl rfl) (by rw [List.length_map])
@[simp] theorem lcAQ_mapL {f : D → Rho → Option Rho} {mt me : ME} {ρ : Rho} {Q : List D → Sto → Prop} {α : Type} {g : α → D} {as : List α} : LcAQ (.lst (as.map g)) f mt me ρ as.length S Q = LcQ f mt me ρ (as.map g) S Q := lcAQ_fix (.inr rfl) (by rw [List.length_map])
end
end Dm
namespace Dm
open PySem L2
end Dm
namespace Dm
open PySem L2
section
variable {d m : Int} {row : List Kd} {vs : List Int} {S : Sto} {ts : List Stp} {lk : List Lk} {a b : Nat}
noncomputable def nowF (site : Nat) : List Stp → List Int → Option Int
  | t :: ts, v :: vs => if t.isEd = true ∧ t.place = site then some v else nowF site ts vs
  | _, _ => none
end
end Dm
namespace Dm
open PySem L2
end Dm
namespace Dm
open PySem L2
section
variable {d o s h : Int} {os : List Int} {js : List (Int × Int)} {zs : Zs} {tb later : List Tb} {ts : List Stp} {lk : List Lk} {E : Option (Nat × Int)} {f : Fin}
noncomputable def mkP (x : Lk) : Int × Int := (x.2.2.1, x.2.2.2)
noncomputable def firstM (lk : List Lk) (p : Nat) : List (Int × Int) := (lk.filter fun x : Lk => decide (x.1 = (p : Int) ∧ x.2.1 = 0)).map mkP
noncomputable def laterM (lk : List Lk) (p : Nat) (n : Int) : List (Int × Int) := (lk.filter fun x : Lk => decide (x.1 = (p : Int) ∧ (x.2.1 = 1 ∨ x.2.2.1 < n))).map mkP
structure Fits (zs : Zs) (tb later : List Tb) (o : Int) (ts : List Stp) (lk : List Lk) (d : Int) (a b : List Tb) : Prop where
  ta : TbsOK zs a
  tl : TbsOK zs b
  like : ∀ x, x ∈ lk → LikeM (o + d) a b x
  ag : ∀ pre i p post, ts = pre ++ .edition i p :: post → ∀ vs', followS agP zs later tb 0 [o] pre = .done vs' → agP (getT a p) (getT b p) (getV vs' i + d) = true
theorem Fits.run {a b : List Tb} (z : ZsOK zs) (ok : ProgFrom zs.length [.mom] ts) (he : cnt Stp.isEd ts ≤ 1) (hu : followS agP zs later tb 0 [o] ts ≠ .unsuited) (F : Fits zs tb later o ts (followL agP zs later o tb none 0 [o] [] ts).2 d a b) :
    followS agP zs b a 0 [o + d] ts = mvF d (kindsFrom [.mom] ts) (followS agP zs later tb 0 [o] ts) := by
  have h := replay (org := o) (d := d) (tb2 := a) (later2 := b) (later := later) z F.ta F.tl (ts := ts) (tbc := tb) (tbc2 := a) (ed := none) (row := [.mom]) (vs := [o]) (lk := []) (k := 0) ok rfl (fun _ _ => rfl) F.ta.len (fun _ _ h => nomatch h) (.inl rfl) he F.like
    (by rw [followL_fst]; exact hu) F.ag
  have h2 := congrArg Prod.fst h
  have hm : mvV d [.mom] [o] = [o + d] := rfl
  rw [followL_fst, followL_fst, hm] at h2
  exact h2
noncomputable def eT (zs : Zs) (lk : List Lk) (p : Nat) : Tb := (earlyT (getZ zs p).1 (getZ zs p).2 (srtP (firstM lk p))).getD (0, [])
noncomputable def eN (zs : Zs) (lk : List Lk) (p : Nat) (n : Int) : Tb := (earlyT (getZ zs p).1 (getZ zs p).2 (srtP (laterM lk p n))).getD (0, [])
noncomputable def eL (zs : Zs) (lk : List Lk) (now : Nat → Option Int) (p : Nat) : Tb := match now p with
  | none => eT zs lk p
  | some n => eN zs lk p n
end
end Dm
namespace Dm
open PySem L2
end Dm
namespace Dm
open PySem L2
section
variable {S : Sto} {zs : Zs} {os : List Int} {s m : Int} {lk : List Lk} {p : Nat} {now : Option Int} {ts : List Stp} {vs : List Int}
noncomputable def sideM (lk : List Lk) (p : Nat) (e : Int) : List (Int × Int) := (lk.filter fun x : Lk => decide (x.1 = (p : Int) ∧ x.2.1 = e)).map mkP
noncomputable def edOf (now : Option Int) (m : Int) : Int := match now with
  | none => 0
  | some n => if n ≤ m then 1 else 0
noncomputable def known (lk : List Lk) (p : Nat) (e m : Int) : Option Int := (lk.find? fun x : Lk => decide (x.1 = (p : Int) ∧ x.2.1 = e ∧ x.2.2.1 = m)).map (·.2.2.2)
noncomputable def laterL (lk : List Lk) (p : Nat) (n : Int) : List (Int × Int) := ((srtP (sideM lk p 0)).filter fun x => decide (x.1 < n)) ++ srtP (sideM lk p 1)
noncomputable def fitB (z : List Int × Int) (lk : List Lk) (p : Nat) (now : Option Int) : Bool := (crow z.2 (srtP (sideM lk p 0))).isNone && match now with
  | none => true
  | some n => (crow z.2 (laterL lk p n)).isNone
noncomputable def longL (zs : Zs) (lk : List Lk) (p : Nat) (now : Option Int) (m : Int) : List (List Lk) := match known lk p (edOf now m) m with
  | some _ => [lk]
  | none => ((getZ zs p).1.map fun o => lk ++ [((p : Int), edOf now m, m, o)]).filter fun l => fitB (getZ zs p) l p now
end
end Dm
namespace Dm
open PySem L2
section
variable {S : Sto} {zs : Zs} {os : List Int} {s m : Int} {lk : List Lk} {p : Nat} {ts : List Stp} {vs : List Int} {now : Nat → Option Int}
structure LkW (zs : Zs) (now : Nat → Option Int) (lk : List Lk) : Prop where
  nodup : lk.Nodup
  each : ∀ x, x ∈ lk → ∃ p : Nat, p < zs.length ∧ x.1 = (p : Int) ∧ x.2.2.2 ∈ (getZ zs p).1 ∧ (x.2.1 = 0 ∨ x.2.1 = 1 ∧ ∃ n, now p = some n ∧ n ≤ x.2.2.1)
  uniq : ∀ x, x ∈ lk → ∀ y, y ∈ lk → x.1 = y.1 → x.2.1 = y.2.1 → x.2.2.1 = y.2.2.1 → x = y
theorem LkW.nil : LkW zs now [] := ⟨.nil, (fun _ h => nomatch h), fun _ h => nomatch h⟩
end
end Dm
namespace Dm
open PySem L2
section
variable {S : Sto} {zs : Zs} {os : List Int} {s m o : Int} {lk b : List Lk} {p : Nat} {ts : List Stp} {vs : List Int} {now now2 : Nat → Option Int} {ms : List Int}
abbrev Case := List Lk × List Int × Option Nat
noncomputable def optN : Option Nat → D
  | none => .non
  | some k => .int k
noncomputable def branchL (zs : Zs) (now : Nat → Option Int) (p : Nat) (lk : List Lk) (ms : List Int) : List (List Lk) := ms.foldl (fun bs m => bs.flatMap fun b => longL zs b p (now p) m) [lk]
noncomputable def curE (zs : Zs) (lk : List Lk) (now : Nat → Option Int) (p : Nat) : Tb := match now p with
  | none => (earlyT (getZ zs p).1 (getZ zs p).2 (srtP (sideM lk p 0))).getD (0, [])
  | some n => (earlyT (getZ zs p).1 (getZ zs p).2 (laterL lk p n)).getD (0, [])
noncomputable def tbE (zs : Zs) (lk : List Lk) (now : Nat → Option Int) : List Tb := (List.range zs.length).map (curE zs lk now)
noncomputable def nowOf (ts : List Stp) (vs : List Int) (p : Nat) : Option Int := nowF p ts (vs.drop 1)
noncomputable def madeL (zs : Zs) (now : Nat → Option Int) (k : Nat) (t : Stp) (vs : List Int) (b : List Lk) : Case := match stepV zs (tbE zs b now) vs t with
  | none => (b, vs, some k)
  | some v => (b, vs ++ [v], none)
noncomputable def behindL (zs : Zs) (ts : List Stp) (k : Nat) (c : Case) : List Case := match c.2.2 with
  | some _ => [c]
  | none => (branchL zs (nowOf ts c.2.1) (ts.getD k (.add 0 0)).place c.1 (askedS zs c.2.1 (ts.getD k (.add 0 0)))).map (madeL zs (nowOf ts c.2.1) k (ts.getD k (.add 0 0)) c.2.1)
noncomputable def FitA (zs : Zs) (now : Nat → Option Int) (lk : List Lk) : Prop := ∀ p, p < zs.length → fitB (getZ zs p) lk p (now p) = true
end
end Dm
namespace Dm
open PySem L2
end Dm
namespace Dm
open PySem L2
end Dm
namespace Dm
open PySem L2
end Dm
namespace Dm
open PySem L2
structure RpB (d : PyData) (w k : Nat) : Prop where
  sh : d.showable = true
  nd : d.hasDict = false
  len : d.shown.length ≤ w
  dp : d.depth ≤ k
theorem rpB_int {i : Int} (h : i.natAbs < 100000000000000) : RpB (.int i) 15 0 := by
  refine ⟨?_, by simp only [PyData.hasDict], int_short h, by simp only [PyData.depth]; omega⟩
  have h1 : i.natAbs < 2 ^ 60 := by omega
  have := log2_le h1
  have h2 : i.natAbs.log2 < 1920 := by omega
  simp only [PyData.showable, h2, decide_true]
theorem RpB.up {d : PyData} {w k w' k' : Nat} (h : RpB d w k) (hw : w ≤ w') (hk : k ≤ k') : RpB d w' k' := ⟨h.sh, h.nd, Nat.le_trans h.len hw, Nat.le_trans h.dp hk⟩
theorem RpB.ok {d : PyData} {w k : Nat} (h : RpB d w k) (hw : w ≤ 16777216) (hk : k ≤ 64) : reprOk d := by
  have h3 : sizeLine = 16777216 := rfl
  exact ⟨h.sh, h.nd, by have := h.len; omega, Nat.le_trans h.dp hk⟩
end Dm
namespace Dm
open PySem L2
end Dm
namespace Dm
inductive Ch (α : Type) : Type
  | ret (a : α) : Ch α
  | pick (n : Nat) (f : Nat → Ch α) : Ch α
namespace Ch
variable {α β : Type}
noncomputable def run : Ch α → List (Nat × Nat) → α × List (Nat × Nat)
  | ret a, _ => (a, [])
  | pick n f, row => ((run (f (min (row.headD (0, 0)).1 (n - 1))) row.tail).1, (min (row.headD (0, 0)).1 (n - 1), n) :: (run (f (min (row.headD (0, 0)).1 (n - 1))) row.tail).2)
noncomputable def bind : Ch α → (α → Ch β) → Ch β
  | ret a, g => g a
  | pick n f, g => pick n fun j => bind (f j) g
end Ch
end Dm
namespace Dm
open PySem L2
end Dm
namespace Dm
open PySem L2
section
variable {zs : Zs} {ts : List Stp} {k p n : Nat} {c : Case} {vs : List Int} {lk b : List Lk} {t : Stp} {m o : Int} {ms : List Int} {now now2 : Nat → Option Int} {row : List Kd}
noncomputable def dfsL (zs : Zs) (ts : List Stp) : Nat → Nat → Case → List Case
  | 0, _, c => [c]
  | n + 1, k, c => (behindL zs ts k c).flatMap (dfsL zs ts n (k + 1))
end
end Dm
namespace Dm
open PySem L2
end Dm
namespace Dm
open PySem L2
end Dm
namespace Dm
open PySem L2
end Dm
namespace Dm
open PySem L2
end Dm
namespace Dm
open PySem L2
end Dm
namespace Dm
open PySem L2
section
variable {S : Sto} {zs : Zs} {ts : List Stp} {k p n w : Nat} {vs : List Int} {lk : List Lk} {t : Stp} {ms : List Int} {nw : Option Int}
noncomputable def wt (w : Nat) : Stp → Nat
  | .find _ _ _ _ => w
  | .read _ _ => 1
  | .offset _ _ => 1
  | .edition _ _ => 1
  | _ => 0
end
end Dm
set_option maxHeartbeats 1000000
namespace Dm
open PySem L2
theorem ifS_no' {ρ : Rho} {S : Sto} {c : ME} {a b : MS} {EO : EXO} {N B C : Rho → Sto → Prop} {R : D → Sto → Prop} (h : ∀ Q : D → Sto → Prop, Q (.bl false) S → (c ρ S).Does Q) (k : (b ρ S).DoesE EO N R B C) : (mSeq (mIfS c a mNop) b ρ S).DoesE EO N R B C := by
  rw [does_seq, does_ifS]
  exact Res.Does.toE (h _ k)
theorem ifS_yes' {ρ : Rho} {S : Sto} {c : ME} {a b : MS} {EO : EXO} {N B C : Rho → Sto → Prop} {R : D → Sto → Prop} (h : ∀ Q : D → Sto → Prop, Q (.bl true) S → (c ρ S).Does Q) (k : (a ρ S).DoesE EO (fun ρ S => (b ρ S).DoesE EO N R B C) R B C) : (mSeq (mIfS c a mNop) b ρ S).DoesE EO N R B C := by
  rw [does_seq, does_ifS]
  exact Res.Does.toE (h _ k)
theorem make_pot_does {S : Sto} {c : Int} {Q : D → Sto → Prop} (q : ∀ S', Bag S.length 9223372036854775808 S' → GoB S.length S S' → Q (.cell S.length) S') : (m_law_make_pot_v2 [.int c] S).Does Q := by
  refine does_def rfl ?_
  have hc : CDivW c 2305843009213693951 := cdivw (by decide) (by decide)
  have b0 : 0 ≤ c % 2305843009213693951 := Int.emod_nonneg c (by decide)
  have b1 : c % 2305843009213693951 < 2305843009213693951 := Int.emod_lt_of_pos c (by decide)
  by_cases h : 1000000000000000000 ≤ c
  · simp [hc, h]
    exact q _ ⟨_, _, 0, by rw [List.getElem?_append_right (Nat.le_refl _), Nat.sub_self]; rfl, b0, b1, by decide, by decide⟩ (GoB.push _)
  · simp [hc, h]
    exact q _ ⟨_, _, 0, by rw [List.getElem?_append_right (Nat.le_refl _), Nat.sub_self]; rfl, b0, b1, by decide, by decide⟩ (GoB.push _)
theorem pick2_does {S : Sto} {p n : Nat} {u : Int} {Q : D → Sto → Prop} (hp : Bag p (n + 1) S) (h0 : 0 < u) (hb : u < 18446744073709551616)
    (q : ∀ r S', Bag p n S' → GoB p S S' → 0 ≤ r → r < u → Q (.int r) S') : (m_law_pick_v2 [.cell p, .int u] S).Does Q := by
  obtain ⟨a, b, c, e, b0, b1, c0, c1⟩ := id hp
  have hl := hp.lt
  refine does_def rfl ?_
  have hu : ∀ k : Int, CDivW k u := fun k => cdivw h0 hb
  by_cases ha : 0 < a
  · refine ifS_yes' (fun Q q => by simp [gIx_cell e, ha]; exact q) ?_
    simp [gIx_cell e, ha, hu]
    refine ⟨h0, _, e, 0, rfl, ?_⟩
    refine q _ _ ⟨a / u, b, c, by simp [hl], b0, b1, c0, by omega⟩ ⟨by rw [List.length_set]; exact Nat.le_refl _, fun n h hn => List.getElem?_set_ne (Ne.symm hn)⟩ (Int.emod_nonneg _ (by omega)) (Int.emod_lt_of_pos _ h0)
  · refine ifS_no' (fun Q q => by simp [gIx_cell e, ha]; exact q) ?_
    refine seq_cut (fun ρ S' => ρ = [some (.cell p), some (.int u), none, none, none] ∧ S'[p]? = some (.lst [.int a, .int b, .int (c + 1)]) ∧ GoB p S S') (fun M hM => ?_) ?_
    · simp [gIx_cell e]
      refine ⟨_, e, 2, rfl, hM _ _ ⟨rfl, ?_, ⟨by rw [List.length_set]; exact Nat.le_refl _, fun n h hn => List.getElem?_set_ne (Ne.symm hn)⟩⟩⟩
      rw [List.getElem?_set_self hl]; rfl
    rintro ρ S1 ⟨rfl, e2, g1⟩
    refine seq_cut (fun ρ S' => ρ = [some (.cell p), some (.int u), none, some (.int (c + 1)), none] ∧ S1 = S') (fun M hM => ?_) ?_
    · simp [gIx_cell e2]
      exact hM _ _ ⟨rfl, rfl⟩
    rintro ρ _ ⟨rfl, rfl⟩
    obtain ⟨t, ht⟩ : ∃ t, t = c + 1 := ⟨_, rfl⟩
    have t0 : t.natAbs < 2 ^ 64 := by omega
    have hb' : (b + 11).natAbs < 2 ^ 62 := by omega
    have m1 := mul_bits (show (19 : Int).natAbs < 2 ^ 5 by decide) t0
    have m2 := mul_bits m1 t0
    have m3 := mul_bits (show (6364136 : Int).natAbs < 2 ^ 23 by decide) t0
    have m4 : (19 * t * t + 6364136 * t + 5).natAbs < 2 ^ 140 := add_bits (n := 139) (add_bits (n := 138) (up_bits m2 (by decide)) (up_bits m3 (by decide)) (by decide)) (Nat.lt_of_lt_of_le (show (5 : Int).natAbs < 2 ^ 3 by decide) (Nat.pow_le_pow_right (by decide) (by decide))) (by decide)
    have m5 := mul_bits hb' m4
    have m6 := mul_bits (show (40503 : Int).natAbs < 2 ^ 16 by decide) t0
    have m7 : ((b + 11) * (19 * t * t + 6364136 * t + 5) + 40503 * t).natAbs < 2 ^ 210 := add_bits (n := 209) (up_bits m5 (by decide)) (up_bits m6 (by decide)) (by decide)
    refine seq_cut (fun ρ S' => ∃ x : Int, ρ = [some (.cell p), some (.int u), none, some (.int t), some (.int x)] ∧ S1 = S' ∧ x.natAbs < 2 ^ 210) (fun M hM => ?_) ?_
    · rw [← ht]
      simp [gIx_cell e2]
      refine ⟨cmulw 5 64 (by decide) t0 (by decide), cmulw 80 64 (up_bits m1 (by decide)) t0 (by decide), cmulw 23 64 (by decide) t0 (by decide), cmulw 62 140 hb' m4 (by decide), cmulw 16 64 (by decide) t0 (by decide), ?_⟩
      exact hM _ _ ⟨_, rfl, rfl, m7⟩
    rintro ρ _ ⟨x, rfl, rfl, hx⟩
    refine seq_cut (fun ρ S' => ∃ x : Int, ρ = [some (.cell p), some (.int u), none, some (.int t), some (.int x)] ∧ S1 = S' ∧ x.natAbs < 2 ^ 62) (fun M hM => ?_) ?_
    · have r0 : 0 ≤ (x * x + 1442695 * x) % 2305843009213693951 := Int.emod_nonneg _ (by decide)
      have r1 : (x * x + 1442695 * x) % 2305843009213693951 < 2305843009213693951 := Int.emod_lt_of_pos _ (by decide)
      have hm : ∀ k : Int, CDivW k 2305843009213693951 := fun k => cdivw (by decide) (by decide)
      have hd : ∀ k : Int, CDivW k 2053 := fun k => cdivw (by decide) (by decide)
      simp [hm, hd]
      refine ⟨cmulw 210 210 hx hx (by decide), cmulw 21 210 (by decide) hx (by decide), ?_⟩
      exact hM _ _ ⟨_, rfl, rfl, by omega⟩
    rintro ρ _ ⟨x, rfl, rfl, hx⟩
    have hm : ∀ k : Int, CDivW k 1000000000039 := fun k => cdivw (by decide) (by decide)
    have hd : ∀ k : Int, CDivW k 32 := fun k => cdivw (by decide) (by decide)
    simp [hm, hd, hu]
    refine ⟨cmulw 62 62 hx hx (by decide), cmulw 13 62 (by decide) hx (by decide), h0, ?_⟩
    exact q _ _ ⟨a, b, c + 1, e2, b0, b1, by omega, by omega⟩ g1 (Int.emod_nonneg _ (by omega)) (Int.emod_lt_of_pos _ h0)
end Dm
namespace Dm
open PySem L2
inductive OddD : D → Prop
  | non : OddD .non
  | bl (b : Bool) : OddD (.bl b)
  | int (i : Int) : OddD (.int i)
  | str (x : Str) : OddD (.str x)
  | exn (c : Str) (fs : List (Str × Int)) : OddD (.exn c fs)
  | tup {ds : List D} : ds.length ≤ 1000 → (∀ d, d ∈ ds → OddD d) → OddD (.tup ds)
  | lst {ds : List D} : ds.length ≤ 1000 → (∀ d, d ∈ ds → OddD d) → OddD (.lst ds)
theorem num_at {S : Sto} {ρ : Rho} {i k : Int} {j : Nat} {A B : MS} {EO : EXO} {N B' C : Rho → Sto → Prop} {R : D → Sto → Prop} (h0 : ρ[j]? = some (some (.int k))) (y : k = i → (A ρ S).DoesE EO (fun ρ S => (B ρ S).DoesE EO N R B' C) R B' C) (no : ¬ k = i → (B ρ S).DoesE EO N R B' C) : (mSeq (mIfS (mOp gEq (mVar j) (mK (.int i))) A mNop) B ρ S).DoesE EO N R B' C := by
  by_cases e : k = i
  · simp [h0, e]
    exact y e
  · simp [h0, e]
    exact no e
theorem odd_tup {d : D} (h : OddD d) (S : Sto) : (∃ ds, d = .tup ds ∧ ds.length ≤ 1000 ∧ ∀ x, x ∈ ds → OddD x) ∨ (∃ t, tyOf S d = some t ∧ isTn t .tup = false ∧ ∀ ds, d ≠ .tup ds) := by
  cases h with
  | @tup ds hl hd => exact .inl ⟨ds, rfl, hl, hd⟩
  | _ => exact .inr ⟨_, rfl, rfl, fun ds e => by cases e⟩
theorem odd_str {d : D} (h : OddD d) (S : Sto) : (∃ w, d = .str w) ∨ (∃ t, tyOf S d = some t ∧ isTn t .str = false ∧ ∀ w, d ≠ .str w) := by
  cases h with
  | str w => exact .inl ⟨w, rfl⟩
  | _ => exact .inr ⟨_, rfl, rfl, fun ds e => by cases e⟩
noncomputable def isI : D → Bool
  | .int _ => true
  | _ => false
section
variable {S : Sto} {os : List Int} {s : Int} {d : D}
theorem is_integer_odd (h : OddD d) : m_is_integer [d] S = .ok (.bl (isI d)) S := by
  refine pure_of fun Q q => ?_
  refine does_def rfl ?_
  cases h <;> (simp [isTn]; exact q)
end
end Dm
namespace Dm
open PySem L2
end Dm
namespace Dm
open PySem L2
section
variable {S : Sto} {zs : Zs} {d : D} {ds : List D} {n p : Nat}
theorem gAll_blp {α : Type} (p : α → Bool) (l : List α) : gAll S [.lst (l.map fun x => D.bl (p x))] = some (.bl (l.all p)) := by
  have hb : ∀ l : List α, blsOf (l.map fun x => D.bl (p x)) = some (l.map p) := by
    intro l
    induction l with
    | nil => rfl
    | cons a l ih => rw [List.map_cons, blsOf, ih] <;> rfl
  unfold gAll
  simp only [lstOf_lst, Option.bind_some, hb, Option.map_some]
  congr 2
  rw [List.all_map] <;> rfl
end
end Dm
namespace Dm
open PySem L2
structure OddL (k : Nat) (ds : List D) : Prop where
  len : ds.length ≤ k
  all : ∀ d, d ∈ ds → OddD d
theorem OddL.one {d : D} (h : OddD d) : OddL 1 [d] := ⟨by simp, fun x hx => by rw [List.mem_singleton.mp hx]; exact h⟩
theorem OddL.tup {k : Nat} {ds : List D} (h : OddL k ds) (hk : k ≤ 1000 := by decide) : OddD (.tup ds) := .tup (Nat.le_trans h.len hk) h.all
theorem OddL.lst {k : Nat} {ds : List D} (h : OddL k ds) (hk : k ≤ 1000 := by decide) : OddD (.lst ds) := .lst (Nat.le_trans h.len hk) h.all
theorem OddL.mono {k m : Nat} {ds : List D} (h : OddL k ds) (hk : k ≤ m) : OddL m ds := ⟨Nat.le_trans h.len hk, h.all⟩
end Dm
set_option maxHeartbeats 1000000
namespace Dm
open PySem L2
section
variable {S : Sto} {p n : Nat} {os : List Int} {s : Int}
theorem shOK_cut {m : Int} (z : ZoneOK os 1000000) (h1 : 1 ≤ m) : ∃ os', cutD (os.map D.int) none (some m) = os'.map D.int ∧ ZoneOK os' 1000000 ∧ (os'.length : Int) ≤ m := by
  refine ⟨os.take m.toNat, by rw [cut_take (by omega), List.map_take], ?_, by rw [List.length_take]; omega⟩
  have e : m.toNat = 1 ∨ m.toNat = 2 ∨ 3 ≤ m.toNat := by omega
  cases z with
  | one a s h1 h2 h3 h4 =>
    rw [List.take_of_length_le (by simp; omega)]
    exact .one _ _ h1 h2 h3 h4
  | two a b s h1 h2 h3 h4 h5 =>
    rcases e with e | e | e
    · rw [e]; exact .one a _ h1 (by omega) (by omega) (by omega)
    · rw [e]; exact .two _ _ _ h1 h2 h3 h4 h5
    · rw [List.take_of_length_le (by simp; omega)]
      exact .two _ _ _ h1 h2 h3 h4 h5
  | three a b c s h1 h2 h3 h4 h5 h6 =>
    rcases e with e | e | e
    · rw [e]; exact .one a _ h1 (by omega) (by omega) (by omega)
    · rw [e]; exact .two a b _ h1 h2 (by omega) (by omega) (by omega)
    · rw [List.take_of_length_le (by simp; omega)]
      exact .three _ _ _ _ h1 h2 h3 h4 h5 h6
theorem draw_shifts_does {Q : D → Sto → Prop} (hp : Bag p (n + 10) S) (q : ∀ os S', Bag p n S' → GoB p S S' → ZoneOK os 1000000 → Q (.tup (os.map .int)) S') : (m_law_draw_shifts [.cell p] S).Does Q := by
  refine does_def rfl ?_
  refine seq_cut (fun ρ S' => ∃ w : Int, ρ = [some (.cell p), some (.int w), none, none, none, none, none] ∧ Bag p (n + 9) S' ∧ GoB p S S' ∧ 0 ≤ w ∧ w < 8) (fun M hM => ?_) ?_
  · simp
    exact pick2_does (n := n + 9) (hp.mono (by omega)) (by decide) (by decide) fun r S1 b1 g1 r0 r1 => hM _ _ ⟨r, rfl, b1, g1, r0, r1⟩
  rintro ρ S1 ⟨w, rfl, b1, g1, w0, w1⟩
  refine seq_cut (fun ρ S' => ∃ L, ρ = [some (.cell p), some (.int w), some (.lst L), none, none, none, none] ∧ S1 = S' ∧ L = [.tup [.int 0, .int 60], .tup [.int (-900), .int 900], .tup [.int (-900), .int (-899)], .tup [.int 0]]) (fun M hM => ?_) ?_
  · simp
    exact hM _ _ ⟨_, rfl, rfl, rfl⟩
  rintro ρ _ ⟨L, rfl, rfl, rfl⟩
  refine seq_cut (fun ρ S' => ∃ L, ρ = [some (.cell p), some (.int w), some (.lst L), none, none, none, none] ∧ S1 = S' ∧ L = [.tup [.int 0, .int 60], .tup [.int (-900), .int 900], .tup [.int (-900), .int (-899)], .tup [.int 0], .tup [.int (-660), .int (-600), .int 840], .tup [.int (-1), .int 0, .int 1], .tup [.int 899, .int 900], .tup [.int 0, .int 1, .int 900]]) (fun M hM => ?_) ?_
  · simp
    exact hM _ _ ⟨_, rfl, rfl, rfl⟩
  rintro ρ _ ⟨L, rfl, rfl, hL⟩
  by_cases c : w < 2
  · refine ifS_yes' (fun Q q => by simp [c]; exact q) ?_
    simp
    refine pick2_does (n := n + 8) (b1.mono (by omega)) (by decide) (by decide) fun r S2 b2 g2 r0 r1 => ?_
    have b := b2.mono (show n ≤ n + 8 by omega)
    have g := g1.trans g2
    subst hL
    have e : r = 0 ∨ r = 1 ∨ r = 2 ∨ r = 3 ∨ r = 4 ∨ r = 5 ∨ r = 6 ∨ r = 7 := by omega
    rcases e with e | e | e | e | e | e | e | e <;> subst e <;> simp [atI, ixN]
    · exact q [0, 60] _ b g (.two _ _ _ (by decide) (by decide) (by decide) (by decide) (by decide))
    · exact q [-900, 900] _ b g (.two _ _ _ (by decide) (by decide) (by decide) (by decide) (by decide))
    · exact q [-900, -899] _ b g (.two _ _ _ (by decide) (by decide) (by decide) (by decide) (by decide))
    · exact q [0] _ b g (.one _ _ (by decide) (by decide) (by decide) (by decide))
    · exact q [-660, -600, 840] _ b g (.three _ _ _ _ (by decide) (by decide) (by decide) (by decide) (by decide) (by decide))
    · exact q [-1, 0, 1] _ b g (.three _ _ _ _ (by decide) (by decide) (by decide) (by decide) (by decide) (by decide))
    · exact q [899, 900] _ b g (.two _ _ _ (by decide) (by decide) (by decide) (by decide) (by decide))
    · exact q [0, 1, 900] _ b g (.three _ _ _ _ (by decide) (by decide) (by decide) (by decide) (by decide) (by decide))
  · refine ifS_no' (fun Q q => by simp [c]; exact q) ?_
    clear hL
    refine seq_cut (fun ρ S' => ∃ near : Int, ρ = [some (.cell p), some (.int w), some (.lst L), some (.int near), none, none, none] ∧ Bag p (n + 8) S' ∧ GoB p S S' ∧ 0 < near ∧ near ≤ 1800) (fun M hM => ?_) ?_
    · simp
      refine pick2_does (n := n + 8) b1 (by decide) (by decide) fun r S2 b2 g2 r0 r1 => ?_
      have g := g1.trans g2
      have e : r = 0 ∨ r = 1 ∨ r = 2 ∨ r = 3 ∨ r = 4 ∨ r = 5 ∨ r = 6 := by omega
      rcases e with e | e | e | e | e | e | e <;> subst e <;> simp [atI, ixN] <;> exact hM _ _ ⟨_, rfl, b2, g, by decide, by decide⟩
    rintro ρ S2 ⟨near, rfl, b2, g2, n0, n1⟩
    refine seq_cut (fun ρ S' => ∃ low : Int, ρ = [some (.cell p), some (.int w), some (.lst L), some (.int near), some (.int low), none, none] ∧ Bag p (n + 7) S' ∧ GoB p S S' ∧ -900 ≤ low ∧ low ≤ 900) (fun M hM => ?_) ?_
    · simp
      refine pick2_does (n := n + 7) b2 (by decide) (by decide) fun r S3 b3 g3 r0 r1 => ?_
      simp
      exact hM _ _ ⟨_, rfl, b3, g2.trans g3, by omega, by omega⟩
    rintro ρ S3 ⟨low, rfl, b3, g3, l0, l1⟩
    refine seq_cut (fun ρ S' => ∃ high : Int, ρ = [some (.cell p), some (.int w), some (.lst L), some (.int near), some (.int low), some (.int high), none] ∧ Bag p (n + 6) S' ∧ GoB p S S' ∧ low ≤ high ∧ high ≤ 900) (fun M hM => ?_) ?_
    · simp
      refine pick2_does (n := n + 6) b3 n0 (by omega) fun r S4 b4 g4 r0 r1 => ?_
      simp
      exact hM _ _ ⟨_, rfl, b4, g3.trans g4, by split <;> omega, by split <;> omega⟩
    rintro ρ S4 ⟨high, rfl, b4, g4, h0, h1⟩
    refine seq_cut (fun ρ S' => ∃ mid : Int, ρ = [some (.cell p), some (.int w), some (.lst L), some (.int near), some (.int low), some (.int high), some (.int mid)] ∧ Bag p (n + 5) S' ∧ GoB p S S') (fun M hM => ?_) ?_
    · simp
      refine pick2_does (n := n + 5) b4 (by split <;> omega) (by split <;> omega) fun r S5 b5 g5 r0 r1 => ?_
      simp
      exact hM _ _ ⟨_, rfl, b5, g4.trans g5⟩
    rintro ρ S5 ⟨mid, rfl, b5, g5⟩
    have b := b5.mono (show n ≤ n + 5 by omega)
    by_cases c7 : w = 7 ∧ low < mid ∧ mid < high
    · obtain ⟨rfl, c1, c2⟩ := c7
      refine ifS_yes' (fun Q q => by simp [c1, c2]; exact q) ?_
      simp
      exact q [low, mid, high] _ b g5 (.three _ _ _ _ l0 c1 c2 h1 (by omega) (by decide))
    · refine ifS_no' (fun Q q => ?_) ?_
      · by_cases c1 : w = 7
        · subst c1
          by_cases c2 : low < mid
          · have c3 : ¬ mid < high := fun h => c7 ⟨rfl, c2, h⟩
            simp [c2, c3]; exact q
          · simp [c2]; exact q
        · have c1' : (w == 7) = false := by simp [c1]
          simp [c1']; exact q
      · by_cases c1 : low < high
        · by_cases c2 : 2 < w
          · simp [c1, c2]
            exact q [low, high] _ b g5 (.two _ _ _ l0 c1 h1 (by omega) (by decide))
          · simp [c1, c2]
            exact q [low] _ b g5 (.one _ _ l0 l1 (by decide) (by decide))
        · simp [c1]
          exact q [low] _ b g5 (.one _ _ l0 l1 (by decide) (by decide))
theorem draw_apart_does {Q : D → Sto → Prop} (hp : Bag p (n + 5) S) (z : ZoneOK os 1000000) (q : ∀ s S', Bag p n S' → GoB p S S' → ZoneOK os s → Q (.int s) S') : (m_law_draw_apart [.cell p, .tup (os.map .int)] S).Does Q := by
  refine does_def rfl ?_
  refine seq_cut (fun ρ S' => ∃ l : Int, ρ = [some (.cell p), some (.tup (os.map .int)), some (.int l), none] ∧ S = S' ∧ 1 ≤ l ∧ l ≤ 1801 ∧ ∀ s, l ≤ s → s ≤ 1000000 → ZoneOK os s) (fun M hM => ?_) ?_
  · cases z with
    | one a s h1 h2 h3 h4 =>
      simp
      exact hM _ _ ⟨_, rfl, rfl, by omega, by omega, fun s k1 k2 => .one _ _ h1 h2 (by omega) k2⟩
    | two a b s h1 h2 h3 h4 h5 =>
      simp
      exact hM _ _ ⟨_, rfl, rfl, by omega, by omega, fun s k1 k2 => .two _ _ _ h1 h2 h3 (by omega) k2⟩
    | three a b c s h1 h2 h3 h4 h5 h6 =>
      simp
      exact hM _ _ ⟨_, rfl, rfl, by omega, by omega, fun s k1 k2 => .three _ _ _ _ h1 h2 h3 h4 (by omega) k2⟩
  rintro ρ _ ⟨l, rfl, rfl, l0, l1, zz⟩
  refine seq_cut (fun ρ S' => ∃ a b : Int, ρ = [some (.cell p), some (.tup (os.map .int)), some (.int l), some (.lst [.int l, .int l, .int a, .int b, .int (2 * l), .int 1440, .int 1000000])] ∧ Bag p (n + 3) S' ∧ GoB p S S' ∧ 1 ≤ a ∧ a ≤ 10000 ∧ 1 ≤ b ∧ b ≤ 10000) (fun M hM => ?_) ?_
  · simp
    refine pick2_does (n := n + 4) hp (by decide) (by decide) fun r S1 b1 g1 r0 r1 => ?_
    simp
    refine pick2_does (n := n + 3) b1 (by decide) (by decide) fun r' S2 b2 g2 r0' r1' => ?_
    simp
    exact ⟨cmulw64 (by decide) (by omega), hM _ _ ⟨_, _, rfl, b2, g1.trans g2, by omega, by omega, by omega, by omega⟩⟩
  rintro ρ S2 ⟨a, b, rfl, b2, g2, a0, a1, b0, b1⟩
  refine seq_cut (fun ρ S' => ∃ is : List Int, ρ = [some (.cell p), some (.tup (os.map .int)), some (.int l), some (.lst (is.map .int))] ∧ Bag p (n + 1) S' ∧ GoB p S S' ∧ is.length = 9 ∧ ∀ i, i ∈ is → i ≤ 1000000) (fun M hM => ?_) ?_
  · simp
    refine pick2_does (n := n + 2) b2 (by decide) (by decide) fun r S3 b3 g3 r0 r1 => ?_
    simp
    refine pick2_does (n := n + 1) b3 (by decide) (by decide) fun r' S4 b4 g4 r0' r1' => ?_
    simp
    refine hM _ _ ⟨[l, l, a, b, 2 * l, 1440, 1000000, 1 + r, 100000 + r'], rfl, b4, g2.trans (g3.trans g4), rfl, ?_⟩
    intro i hi
    simp only [List.mem_cons, List.not_mem_nil, or_false] at hi
    rcases hi with rfl | rfl | rfl | rfl | rfl | rfl | rfl | rfl | rfl <;> omega
  rintro ρ S4 ⟨is, rfl, b4, g4, il, ib⟩
  simp
  refine pick2_does (n := n) b4 (by decide) (by decide) fun r S5 b5 g5 r0 r1 => ?_
  have hr : r.toNat < is.length := by omega
  have e : atI (is.map D.int) r = some (.int is[r.toNat]) := by
    rw [atI_of r0 (by rw [List.length_map]; omega), List.getElem?_map, List.getElem?_eq_getElem hr]; rfl
  simp [e]
  have := ib _ (List.getElem_mem hr)
  exact q _ _ b5 (g4.trans g5) (zz _ (by split <;> omega) (by split <;> omega))
end
end Dm
set_option maxHeartbeats 1000000
namespace Dm
open PySem L2
section
variable {S : Sto} {p n : Nat} {os : List Int} {s : Int}
theorem zone_wide (z : ZoneOK os s) : ZoneOK os 1000000 := by
  cases z with
  | one a s h1 h2 h3 h4 => exact .one _ _ h1 h2 (by decide) (by decide)
  | two a b s h1 h2 h3 h4 h5 => exact .two _ _ _ h1 h2 h3 (by omega) (by decide)
  | three a b c s h1 h2 h3 h4 h5 h6 => exact .three _ _ _ _ h1 h2 h3 h4 (by omega) (by decide)
theorem draw_fields_does {many : Nat} {most : Int} {Q : D → Sto → Prop} (hm : many = 1 ∨ many = 2) (h1 : 1 ≤ most) (hp : Bag p (n + 40) S) (q : ∀ zs S', Bag p n S' → GoB p S S' → ZsOK zs → zs.length = many → (∀ z, z ∈ zs → (z.1.length : Int) ≤ most) → Q (zonesD zs) S') : (m_law_draw_fields [.cell p, .int (many : Int), .int most] S).Does Q := by
  have pl := hp.lt
  refine does_def rfl ?_
  refine seq_cut (fun ρ S' => ρ = [some (.cell p), some (.int (many : Int)), some (.int most), some (.cell S.length), none, none, none] ∧ S' = S ++ [.lst []]) (fun M hM => ?_) ?_
  · simp
    exact hM _ _ ⟨rfl, rfl⟩
  rintro ρ _ ⟨rfl, rfl⟩
  have b0 := hp.push (.lst [])
  have g0 : GoB p S (S ++ [Cell.lst []]) := GoB.push _
  have cN : (S ++ [Cell.lst []])[S.length]? = some (.lst []) := by simp
  have nN : S.length ≠ p := by omega
  generalize hN : S.length = N at cN nN
  have lN : S.length ≤ N := by omega
  generalize S ++ [Cell.lst []] = S0 at b0 g0 cN
  refine seq_cut (fun ρ S' => ∃ (zs : Zs) (x4 x5 x6 : Option D), ρ = [some (.cell p), some (.int (many : Int)), some (.int most), some (.cell N), x4, x5, x6] ∧ Bag p n S' ∧ GoB p S S' ∧ S'[N]? = some (.lst (zs.map fun z => zoneD z.1 z.2)) ∧ (∀ z, z ∈ zs → ZoneOK z.1 z.2 ∧ (z.1.length : Int) ≤ most) ∧ zs.length = many) (fun M hM => ?_) ?_
  · simp
    refine ⟨by omega, ?_⟩
    refine forL_cut (fun es ρ S' => ∃ (t k : Nat) (zs : Zs) (x4 x5 x6 : Option D), es = rngD (t : Int) k ∧ t + k = many ∧ ρ = [some (.cell p), some (.int (many : Int)), some (.int most), some (.cell N), x4, x5, x6] ∧ Bag p (n + 20 * k) S' ∧ GoB p S S' ∧ S'[N]? = some (.lst (zs.map fun z => zoneD z.1 z.2)) ∧ (∀ z, z ∈ zs → ZoneOK z.1 z.2 ∧ (z.1.length : Int) ≤ most) ∧ zs.length = t) _
      ⟨0, many, [], none, none, none, rfl, by omega, rfl, b0.mono (by omega), g0, cN, (fun _ h => nomatch h), rfl⟩ ?_ ?_
    · rintro d r ρ S1 ⟨t, k, zs, x4, x5, x6, e, tk, rfl, b1, g1, c1, hz, zl⟩
      cases k with
      | zero => cases e
      | succ k =>
        rw [rngD_cons] at e
        injection e with e1 e2
        subst e1
        refine ⟨_, rfl, fun M2 hM2 => ?_⟩
        refine seq_cut (fun ρ S' => ∃ os, ρ = [some (.cell p), some (.int (many : Int)), some (.int most), some (.cell N), some (.int (t : Int)), some (.tup (os.map .int)), x6] ∧ Bag p (n + 20 * k + 10) S' ∧ GoB p S1 S' ∧ ZoneOK os 1000000 ∧ (os.length : Int) ≤ most) (fun M hM => ?_) ?_
        · simp
          refine draw_shifts_does (n := n + 20 * k + 10) (b1.mono (by omega)) fun os S2 b2 g2 z => ?_
          obtain ⟨os', e, z', l'⟩ := shOK_cut z h1
          simp [e]
          exact hM _ _ ⟨os', rfl, b2, g2, z', l'⟩
        rintro ρ S2 ⟨os, rfl, b2, g2, z2, l2⟩
        have c2 := g2.get c1 nN
        refine seq_cut (fun ρ S' => ∃ os, ρ = [some (.cell p), some (.int (many : Int)), some (.int most), some (.cell N), some (.int (t : Int)), some (.tup (os.map .int)), x6] ∧ Bag p (n + 20 * k + 9) S' ∧ GoB p S1 S' ∧ ZoneOK os 1000000 ∧ (os.length : Int) ≤ most) (fun M hM => ?_) ?_
        · by_cases c0 : t = 0
          · subst c0
            simp
            exact hM _ _ ⟨os, rfl, b2.mono (by omega), g2, z2, l2⟩
          · have c0' : (0 : Int) < t := by omega
            obtain ⟨zz, hzz⟩ : ∃ zz, zs[0]? = some zz := ⟨zs[0]'(by omega), List.getElem?_eq_getElem (by omega)⟩
            have mz := hz zz (List.mem_of_getElem? hzz)
            have a0 : atI (zs.map fun z => zoneD z.1 z.2) 0 = some (zoneD zz.1 zz.2) := by
              rw [atI_of (by decide) (by rw [List.length_map]; omega), List.getElem?_map]
              show (zs[0]?).map _ = _
              rw [hzz]; rfl
            simp [c0', show 0 < t by omega]
            refine pick2_does (u := 3) (n := n + 20 * k + 9) b2 (by decide) (by decide) fun r S3 b3 g3 r0 r1 => ?_
            have c3 := g3.get c2 nN
            by_cases cr : r = 0
            · subst cr
              have i0 : gIx S3 (zoneD zz.1 zz.2) (.int 0) = some (.tup (zz.1.map .int)) := by simp [zoneD]
              simp [gIx_cell c3, a0, i0]
              exact hM _ _ ⟨zz.1, rfl, b3, g2.trans g3, zone_wide mz.1, mz.2⟩
            · simp [cr]
              exact hM _ _ ⟨os, rfl, b3, g2.trans g3, z2, l2⟩
        rintro ρ S3 ⟨os, rfl, b3, g3, z3, l3⟩
        refine seq_cut (fun ρ S' => ∃ s, ρ = [some (.cell p), some (.int (many : Int)), some (.int most), some (.cell N), some (.int (t : Int)), some (.tup (os.map .int)), some (zoneD os s)] ∧ Bag p (n + 20 * k + 1) S' ∧ GoB p S1 S' ∧ ZoneOK os s) (fun M hM => ?_) ?_
        · simp
          refine draw_apart_does (n := n + 20 * k + 1) (b3.mono (by omega)) z3 fun s S4 b4 g4 z4 => ?_
          exact hM _ _ ⟨s, rfl, b4, g3.trans g4, z4⟩
        rintro ρ S4 ⟨s, rfl, b4, g4, z4⟩
        have c4 := g4.get c1 nN
        have fin : ∀ (z : List Int × Int) (S5 : Sto), Bag p (n + 20 * k) S5 → GoB p S1 S5 → ZoneOK z.1 z.2 → (z.1.length : Int) ≤ most → M2 [some (.cell p), some (.int (many : Int)), some (.int most), some (.cell N), some (.int (t : Int)), some (.tup (os.map .int)), some (zoneD os s)] (S5.set N (.lst ((zs.map fun z => zoneD z.1 z.2) ++ [zoneD z.1 z.2]))) := fun z S5 b5 g5 hz5 hl5 => by
          have hlt := (List.getElem?_eq_some_iff.mp (g5.get c1 nN)).1
          refine hM2 _ _ ⟨t + 1, k, zs ++ [z], _, _, _, by rw [e2] <;> rfl, by omega, rfl, b5.set nN _, (g1.trans g5).setNew lN _, by rw [List.getElem?_set_self hlt, List.map_append] <;> rfl, fun x hx => ?_, by rw [List.length_append, zl] <;> rfl⟩
          rcases List.mem_append.mp hx with hx | hx
          · exact hz x hx
          · rw [List.mem_singleton.mp hx]; exact ⟨hz5, hl5⟩
        by_cases c0 : t = 0
        · subst c0
          simp [c4]
          exact ⟨by omega, fin (os, s) S4 (b4.mono (by omega)) g4 z4 l3⟩
        · have c0' : (0 : Int) < t := by omega
          obtain ⟨zz, hzz⟩ : ∃ zz, zs[0]? = some zz := ⟨zs[0]'(by omega), List.getElem?_eq_getElem (by omega)⟩
          have mz := hz zz (List.mem_of_getElem? hzz)
          have a0 : atI (zs.map fun z => zoneD z.1 z.2) 0 = some (zoneD zz.1 zz.2) := by
            rw [atI_of (by decide) (by rw [List.length_map]; omega), List.getElem?_map]
            show (zs[0]?).map _ = _
            rw [hzz]; rfl
          simp [c0', show 0 < t by omega]
          refine ⟨⟨_, c4⟩, ?_⟩
          refine pick2_does (u := 8) (n := n + 20 * k) b4 (by decide) (by decide) fun r S5 b5 g5 r0 r1 => ?_
          have c5 := g5.get c4 nN
          by_cases cr : r = 0
          · subst cr
            simp [gIx_cell c5, a0, c5]
            exact ⟨by omega, fin zz S5 b5 (g4.trans g5) mz.1 mz.2⟩
          · simp [cr, c5]
            exact ⟨by omega, fin (os, s) S5 b5 (g4.trans g5) z4 l3⟩
    · rintro ρ S1 ⟨t, k, zs, x4, x5, x6, e, tk, rfl, b1, g1, c1, hz, zl⟩
      cases k with
      | succ k => rw [rngD_cons] at e; cases e
      | zero => exact hM _ _ ⟨zs, _, _, _, rfl, b1, g1, c1, hz, by omega⟩
  rintro ρ S1 ⟨zs, x4, x5, x6, rfl, b1, g1, c1, hz, zl⟩
  simp [gTuple_cell c1]
  exact q zs _ b1 g1 ⟨fun z h => (hz z h).1, by omega⟩ zl fun z h => (hz z h).2
end
end Dm
set_option maxHeartbeats 1000000
namespace Dm
open PySem L2
section
variable {S : Sto} {p n r : Nat} {row : List Kd} {zs : Zs}
theorem rule2_does {Q : D → Sto → Prop} (hp : Bag p (n + 2) S) (q : ∀ f g S', Bag p n S' → GoB p S S' → RuleF f → RuleG g → Q (.tup [.str f, .str g]) S') : (m_law_rule [.cell p] S).Does Q := by
  refine does_def rfl ?_
  simp
  refine pick2_does (n := n + 1) hp (by decide) (by decide) fun c S1 b1 g1 r0 r1 => ?_
  have e1 : ∃ f, RuleF f ∧ atI [D.str "early", .str "late", .str "early", .str "late", .str "refuse"] c = some (.str f) := by
    have e : c = 0 ∨ c = 1 ∨ c = 2 ∨ c = 3 ∨ c = 4 := by omega
    rcases e with rfl | rfl | rfl | rfl | rfl
    · exact ⟨_, .inl rfl, by simp⟩
    · exact ⟨_, .inr (.inl rfl), by simp⟩
    · exact ⟨_, .inl rfl, by simp⟩
    · exact ⟨_, .inr (.inl rfl), by simp [atI, ixN]⟩
    · exact ⟨_, .inr (.inr rfl), by simp [atI, ixN]⟩
  obtain ⟨f, hf, ef⟩ := e1
  simp [ef]
  refine pick2_does (n := n) b1 (by decide) (by decide) fun c2 S2 b2 g2 s0 s1 => ?_
  have e2 : ∃ g, RuleG g ∧ atI [D.str "ahead", .str "behind", .str "ahead", .str "behind", .str "refuse"] c2 = some (.str g) := by
    have e : c2 = 0 ∨ c2 = 1 ∨ c2 = 2 ∨ c2 = 3 ∨ c2 = 4 := by omega
    rcases e with rfl | rfl | rfl | rfl | rfl
    · exact ⟨_, .inl rfl, by simp⟩
    · exact ⟨_, .inr (.inl rfl), by simp⟩
    · exact ⟨_, .inl rfl, by simp⟩
    · exact ⟨_, .inr (.inl rfl), by simp [atI, ixN]⟩
    · exact ⟨_, .inr (.inr rfl), by simp [atI, ixN]⟩
  obtain ⟨g, hg, eg⟩ := e2
  simp [eg]
  exact q f g _ b2 (g1.trans g2) hf hg
theorem draw_spot_does {ks : List Kd} {Q : D → Sto → Prop} (hp : Bag p (n + 2) S) (hr : S[r]? = some (.lst (row.map Kd.d))) (hrp : r ≠ p) (hk : ∃ k, k ∈ row ∧ k ∈ ks) (hl : row.length ≤ 60) (q : ∀ (i : Nat) k S', Bag p n S' → GoB p S S' → row[i]? = some k → k ∈ ks → Q (.int i) S') :
    (m_law_draw_spot [.cell p, .cell r, .lst (ks.map Kd.d)] S).Does Q := by
  refine does_def rfl ?_
  have ink : ∀ k : Kd, gIn false S (.str k.s) (.lst (ks.map Kd.d)) = some (.bl (decide (k ∈ ks))) := by
    intro k
    unfold gIn
    have h1 : (ks.map Kd.d).all flatD = true := by simp [Kd.d, flatD]
    have h2 : ((ks.map Kd.d).any fun x => eqF x (.str k.s)) = decide (k ∈ ks) := by
      rw [List.any_map]
      have : (fun x => eqF x (.str k.s)) ∘ Kd.d = fun a : Kd => decide (a = k) := by
        funext a
        show eqF (.str a.s) (.str k.s) = _
        show (a.s == k.s) = _
        exact kd_eq a k
      rw [this]
      by_cases c : k ∈ ks
      · rw [decide_eq_true c, List.any_eq_true]
        exact ⟨k, c, decide_eq_true rfl⟩
      · rw [decide_eq_false c, List.any_eq_false]
        intro x hx
        simp only [decide_eq_true_eq]
        rintro rfl
        exact c hx
    simp only [seqOf_fix (.inr rfl), h1, h2, flatD_str, and_self, if_true, Bool.false_eq_true, if_false]
  refine seq_cut (fun ρ S' => S' = S ∧ ∃ l x4, ρ = [some (.cell p), some (.cell r), some (.lst (ks.map Kd.d)), some (.lst ((l : List Nat).map fun i : Nat => D.int i)), x4] ∧ l ≠ [] ∧ l.length ≤ 60 ∧ ∀ i, i ∈ l → ∃ k, row[i]? = some k ∧ k ∈ ks) (fun M hM => ?_) ?_
  · simp [gLen_cell hr]
    refine ⟨by omega, ?_⟩
    unfold rngD
    refine lcQ_filter (as := List.range row.length) (i := fun i : Nat => D.int (0 + i)) (fun i => decide (∃ k, row[i]? = some k ∧ k ∈ ks)) (fun i : Nat => D.int i) ?_ ?_
    · intro i hi
      have hi' : i < row.length := List.mem_range.mp hi
      have e : row[i]? = some row[i] := List.getElem?_eq_getElem hi'
      obtain ⟨h1, h2, h3⟩ := row_at hr e
      refine ⟨_, rfl, fun Q q => ?_, fun Q _ q => ?_⟩
      · simp [wipeD, h1, ink]
        rw [e] at q
        simp at q
        exact q
      · simp [wipeD]
        exact q
    · refine hM _ _ ⟨rfl, _, _, rfl, ?_, ?_, ?_⟩
      · obtain ⟨k, hk1, hk2⟩ := hk
        obtain ⟨i, e⟩ := List.mem_iff_getElem?.mp hk1
        exact List.ne_nil_of_mem (a := i) (List.mem_filter.mpr ⟨List.mem_range.mpr (List.getElem?_eq_some_iff.mp e).1, decide_eq_true ⟨k, e, hk2⟩⟩)
      · exact Nat.le_trans (List.length_filter_le _ _) (by simpa using hl)
      · intro i hi
        exact of_decide_eq_true (List.mem_filter.mp hi).2
  rintro ρ _ ⟨rfl, l, x4, rfl, ne, ll, hi⟩
  have ne' : l.map (fun i : Nat => D.int i) ≠ [] := by simpa using ne
  have : 0 < l.length := List.length_pos_iff.mpr ne
  obtain ⟨x0, hx0, e0⟩ := atI_lastL ne'
  obtain ⟨i0, hi0, rfl⟩ := List.mem_map.mp hx0
  simp [e0]
  refine pick2_does (n := n + 1) hp (by omega) (by omega) fun c2 S2 b2 g2 s0 s1 => ?_
  obtain ⟨x, hx, e⟩ := atI_memL (l := l.map fun i : Nat => D.int i) s0 (by simpa using s1)
  obtain ⟨i, hi', rfl⟩ := List.mem_map.mp hx
  simp [e]
  refine pick2_does (n := n) b2 (by decide) (by decide) fun c S1 b1 g1 r0 r1 => ?_
  have ec : c = 0 ∨ c = 1 := by omega
  rcases ec with rfl | rfl
  · simp
    obtain ⟨k, h1, h2⟩ := hi i0 hi0
    exact q i0 k _ b1 (g2.trans g1) h1 h2
  · simp
    obtain ⟨k, h1, h2⟩ := hi i hi'
    exact q i k _ b1 (g2.trans g1) h1 h2
theorem minutes8_does {Q : D → Sto → Prop} (hp : Bag p (n + 20) S) (z : ZsOK zs) (q : ∀ (ms : List Int) S', Bag p n S' → GoB p S S' → ms.length = 8 → (∀ m, m ∈ ms → -100000 ≤ m ∧ m ≤ 100000) → Q (.lst (ms.map .int)) S') : (m_law_minutes_v2 [.cell p, zonesD zs] S).Does Q := by
  refine does_def rfl ?_
  have hz : 0 < zs.length ∧ zs.length ≤ 2 := by rcases z.len with h | h <;> omega
  refine seq_cut (fun ρ S' => ∃ os s, ρ = [some (.cell p), some (zonesD zs), some (zoneD os s), none, none, none, none, none] ∧ Bag p (n + 19) S' ∧ GoB p S S' ∧ ZoneOK os s) (fun M hM => ?_) ?_
  · simp [zonesD]
    refine pick2_does (n := n + 19) hp (by omega) (by omega) fun c S1 b1 g1 r0 r1 => ?_
    obtain ⟨x, hx, e⟩ := atI_memL (l := zs.map fun z => zoneD z.1 z.2) r0 (by simpa using r1)
    obtain ⟨⟨os, s⟩, hz', rfl⟩ := List.mem_map.mp hx
    rw [gIx_tup, e]
    simp
    exact hM _ _ ⟨os, s, rfl, b1, g1, z.all _ hz'⟩
  rintro ρ S1 ⟨os, s, rfl, b1, g1, zo⟩
  have hw : ∃ a b : Int, atI (os.map D.int) (-1) = some (.int b) ∧ atI (os.map D.int) 0 = some (.int a) ∧ 0 ≤ b - a ∧ b - a < s ∧ s ≤ 1000000 := by
    cases zo with
    | one a s h1 h2 h3 h4 => exact ⟨a, a, by simp, by simp, by omega, by omega, h4⟩
    | two a b s h1 h2 h3 h4 h5 => exact ⟨a, b, by simp, by simp, by omega, by omega, h5⟩
    | three a b c s h1 h2 h3 h4 h5 h6 => exact ⟨a, c, by simp, by simp, by omega, by omega, h6⟩
  obtain ⟨a, b, ea, eb, w0, w1, w2⟩ := hw
  refine seq_cut (fun ρ S' => ∃ w : Int, ρ = [some (.cell p), some (zonesD zs), some (zoneD os s), some (.int w), none, none, none, none] ∧ S1 = S' ∧ 0 ≤ w ∧ w < s) (fun M hM => ?_) ?_
  · simp [zoneD, ea, eb]
    exact hM _ _ ⟨b - a, rfl, rfl, w0, w1⟩
  rintro ρ _ ⟨w, rfl, rfl, v0, v1⟩
  clear ea eb w0 w1
  refine seq_cut (fun ρ S' => ∃ is : List Int, ρ = [some (.cell p), some (zonesD zs), some (zoneD os s), some (.int w), some (.lst (is.map .int)), none, none, none] ∧ S1 = S' ∧ is.length = 8 ∧ ∀ i, i ∈ is → -9000000 ≤ i ∧ i ≤ 9000000) (fun M hM => ?_) ?_
  · have k1 : CMulW 2 s := cmulw64 (by omega) (by omega)
    simp [zoneD, k1]
    refine hM _ _ ⟨[w, w - 1, w + 1, s, s - 1, s + 1, s - w, 2 * s], rfl, rfl, rfl, fun i hi => ?_⟩
    simp at hi
    omega
  rintro ρ _ ⟨is, rfl, rfl, l8, hi⟩
  refine seq_cut (fun ρ S' => ∃ is : List Int, ρ = [some (.cell p), some (zonesD zs), some (zoneD os s), some (.int w), some (.lst (is.map .int)), none, none, none] ∧ Bag p (n + 17) S' ∧ GoB p S S' ∧ is.length = 16 ∧ ∀ i, i ∈ is → -9000000 ≤ i ∧ i ≤ 9000000) (fun M hM => ?_) ?_
  · simp
    refine pick2_does (n := n + 18) b1 (by decide) (by decide) fun x S2 b2 g2 x0 x1 => ?_
    refine pick2_does (n := n + 17) b2 (by decide) (by decide) fun y S3 b3 g3 y0 y1 => ?_
    simp [zoneD]
    have := hM _ _ ⟨is ++ [1, 0, 1440, 60, 100000, x, y, s - w - 1], rfl, b3, g1.trans (g2.trans g3), by simp [l8], fun i hi' => by
      rcases List.mem_append.mp hi' with h | h
      · exact hi i h
      · simp at h
        omega⟩
    simp [zoneD] at this ⊢
    exact ⟨by omega, this⟩
  clear hi l8 is
  rintro ρ S2 ⟨is, rfl, b2, g2, l16, hi⟩
  refine seq_cut (fun ρ S' => ∃ (is : List Int) (x4 x6 : Option D), ρ = [some (.cell p), some (zonesD zs), some (zoneD os s), some (.int w), x4, some (.lst (is.map .int)), x6, none] ∧ Bag p n S' ∧ GoB p S S' ∧ is.length = 8) (fun M hM => ?_) ?_
  · simp
    have key : ∀ (k t : Nat) (S3 : Sto) (Q : List D → Sto → Prop), Bag p (n + 2 * k) S3 → GoB p S S3 → (∀ js S', Bag p n S' → GoB p S S' → js.length = k → Q ((js : List Int).map .int) S') →
        LcQ (tgN 6) mYes (mOp gMul (mOp gIx (mVar 4) (mCall m_law_pick_v2 (mCons (mVar 0) (mCons (mK (.int 16)) mNil)))) (mOp gIx (mFz (mLst (mCons (mK (.int 1)) (mCons (mK (.int (-1))) mNil)))) (mCall m_law_pick_v2 (mCons (mVar 0) (mCons (mK (.int 2)) mNil))))) [some (.cell p), some (zonesD zs), some (zoneD os s), some (.int w), some (.lst (is.map .int)), none, none, none] (rngD (t : Int) k) S3 Q := by
      intro k
      induction k with
      | zero => intro t S3 Q b3 g3 q; rw [rngD_nil, lcQ_nil]; exact q [] S3 b3 g3 rfl
      | succ k ih =>
        intro t S3 Q b3 g3 q
        rw [rngD_cons, lcQ_cons]
        simp
        refine pick2_does (n := n + 2 * k + 1) (b3.mono (by omega)) (by decide) (by decide) fun c S4 b4 g4 c0 c1 => ?_
        obtain ⟨x, hx, e⟩ := atI_memL (l := is.map D.int) c0 (by rw [List.length_map, l16]; exact c1)
        obtain ⟨i, hi', rfl⟩ := List.mem_map.mp hx
        try rw [gIx_lst]
        rw [e]
        simp
        refine pick2_does (n := n + 2 * k) b4 (by decide) (by decide) fun c S5 b5 g5 d0 d1 => ?_
        have hb := hi i hi'
        have ec : c = 0 ∨ c = 1 := by omega
        rcases ec with rfl | rfl
        · have km : CMulW i 1 := cmulw64 (by omega) (by omega)
          simp [km]
          exact ih (t + 1) S5 _ b5 (g3.trans (g4.trans g5)) fun js S' b' g' l' => q (i :: js) S' b' g' (by simp [l'])
        · have km : CMulW i (-1) := cmulw64 (by omega) (by omega)
          simp [km]
          exact ih (t + 1) S5 _ b5 (g3.trans (g4.trans g5)) fun js S' b' g' l' => q (-i :: js) S' b' g' (by simp [l'])
    have := key 8 0 S2 (fun ys S' => M [some (.cell p), some (zonesD zs), some (zoneD os s), some (.int w), some (.lst (is.map .int)), some (.lst ys), none, none] S') (b2.mono (by omega)) g2 fun js S' b' g' l' => hM _ _ ⟨js, _, _, rfl, b', g', l'⟩
    exact this
  clear hi l16 is
  rintro ρ S3 ⟨is, x4, x6, rfl, b3, g3, l8⟩
  simp
  try rw [lcAQ_fix (.inr rfl) (by simp)]
  refine lcQ_filter (as := is) (i := D.int) (fun _ => true) (fun i : Int => D.int (max (-100000) (min 100000 i))) (fun i _ => ⟨_, rfl, fun Q q => by simp; exact q, fun Q _ q => ?_⟩) ?_
  · simp [wipeD]
    have e : (if -100000 < (if i < 100000 then i else 100000) then (if i < 100000 then i else 100000) else -100000) = max (-100000) (min 100000 i) := by
      split <;> split at * <;> omega
    rw [e]
    exact q
  · rw [List.filter_eq_self.mpr (fun _ _ => rfl)]
    have := q (is.map fun i => max (-100000) (min 100000 i)) S3 b3 g3 (by simp [l8]) (fun m hm => by
      obtain ⟨i, _, rfl⟩ := List.mem_map.mp hm
      omega)
    rw [List.map_map] at this
    exact this
end
end Dm
set_option maxHeartbeats 1000000
namespace Dm
open PySem L2
section
variable {S : Sto} {p n r : Nat} {row : List Kd} {zs : Zs}
theorem Grow.gobT {S S' : Sto} (g : Grow S S') : GoB p S S' := by
  obtain ⟨cs, rfl⟩ := g
  exact ⟨by rw [List.length_append]; omega, fun n h _ => List.getElem?_append_left h⟩
theorem Bag.growT {S S' : Sto} (h : Bag p n S) (g : Grow S S') : Bag p n S' := by
  obtain ⟨a, b, c, e, r⟩ := h
  exact ⟨a, b, c, g.get e, r⟩
theorem Grow.setT {S S' : Sto} {n : Nat} (g : Grow S S') (hn : S.length ≤ n) (c : Cell) : Grow S (S'.set n c) := by
  obtain ⟨cs, rfl⟩ := g
  rw [List.set_append_right _ _ hn]
  exact ⟨_, rfl⟩
noncomputable def kdS : List (Key × D) := [(.inr "read", .str "reading"), (.inr "find", .str "moment"), (.inr "offset", .str "span"), (.inr "edition", .str "moment"), (.inr "plus", .str "reading")]
theorem kdS_eq : keysD [(D.str (Str.ofString "read"), D.str (Str.ofString "reading")), (D.str (Str.ofString "find"), D.str (Str.ofString "moment")), (D.str (Str.ofString "offset"), D.str (Str.ofString "span")), (D.str (Str.ofString "edition"), D.str (Str.ofString "moment")), (D.str (Str.ofString "plus"), D.str (Str.ofString "reading"))] = some kdS := rfl
theorem kdS_m : mergeD [] kdS = kdS := rfl
theorem dic_new {kvs : List (Key × D)} : dicOf (S ++ [.dic kvs]) (.cell S.length) = some kvs := dicOf_cell (by simp)
theorem sort_behind_does {m : Nat} {t : Stp} {Q : D → Sto → Prop} (hn : S[n]? = some (.lst (row.map Kd.d))) (h : t.OK m row) (q : ∀ c, Q (t.kind row).d (S ++ [c])) : (m_law_sort_behind [.cell n, t.d] S).Does Q := by
  refine does_def rfl ?_
  have q := q (.dic kdS)
  have hn' : (S ++ [.dic kdS])[n]? = some (.lst (row.map Kd.d)) := by
    rw [List.getElem?_append_left (List.getElem?_eq_some_iff.mp hn).1]; exact hn
  have l5 : kdS.length ≤ 15 := by decide
  cases t with
  | add i m =>
    have e : ∃ k, row[i]? = some k := by rcases h.1 with h | h <;> exact ⟨_, h⟩
    obtain ⟨k, e⟩ := e
    obtain ⟨h1, h2, h3⟩ := row_at hn' e
    simp [Stp.d, kdS_eq, kdS_m, l5, h1]
    simp [Stp.kind, e, Kd.d] at q
    exact q
  | _ => simp (decide := true) [Stp.d, kdS_eq, kdS_m, l5, dic_new, valD, kdS]; exact q
theorem kinds_in_does {m : Nat} {ts : List Stp} {Q : D → Sto → Prop} (h : ProgFrom m [.mom] ts) (hl : ts.length ≤ 60) (q : ∀ S', Grow S S' → S.length < S'.length → S'[S.length]? = some (.lst ((kindsFrom [.mom] ts).map Kd.d)) → Q (.cell S.length) S') : (m_law_kinds_in [progD ts] S).Does Q := by
  refine does_def rfl ?_
  simp [progD]
  refine forL_cut (fun ds ρ S' => ∃ us row x2, ds = (us : List Stp).map Stp.d ∧ ρ = [some (.tup (ts.map Stp.d)), some (.cell S.length), x2] ∧ Grow S S' ∧ S.length < S'.length ∧ S'[S.length]? = some (.lst (row.map Kd.d)) ∧ ProgFrom m row us ∧ kindsFrom row us = kindsFrom [.mom] ts ∧ row.length + us.length ≤ 61) _
    ⟨ts, [.mom], _, rfl, rfl, Grow.refl.push _, by simp, by simp [Kd.d, Kd.s], h, rfl, by simp; omega⟩ ?_ ?_
  · rintro d r ρ S1 ⟨us, row, x2, e, rfl, g1, l1, hn, hp, hk, hl⟩
    cases us with
    | nil => cases e
    | cons u us =>
      simp at e
      obtain ⟨rfl, rfl⟩ := e
      refine ⟨_, rfl, fun M hM => ?_⟩
      simp at hl
      simp
      refine ⟨⟨_, hn⟩, ?_⟩
      refine sort_behind_does hn hp.1 fun c => ?_
      have hn2 : (S1 ++ [c])[S.length]? = some (.lst (row.map Kd.d)) := by rw [List.getElem?_append_left l1]; exact hn
      simp [hn2]
      refine ⟨by omega, hM _ _ ⟨us, row ++ [u.kind row], _, rfl, rfl, (g1.push _).setT (Nat.le_refl _) _, by simp; omega, ?_, hp.2, hk, by simp; omega⟩⟩
      rw [List.getElem?_set_self (by simp; omega), List.map_append] <;> rfl
  · rintro ρ S1 ⟨us, row, x2, e, rfl, g1, l1, hn, hp, hk, hl⟩
    cases us with
    | nil =>
      simp
      rw [show row = kindsFrom [.mom] ts from hk] at hn
      exact q S1 g1 l1 hn
    | cons u us => cases e
end
section
variable {S : Sto} {p n r : Nat} {row : List Kd} {zs : Zs}
theorem stps_pyT {nz : Nat} : ∀ l : List Stp, (∀ t, t ∈ l → ∃ row, t.OK nz row) → ∃ qs, toPys (l.map Stp.d) = some qs ∧ PyData.canLayAll0 qs = true ∧ PyData.depthAll qs ≤ 1 ∧ qs.length = l.length
  | [], _ => ⟨[], rfl, rfl, Nat.zero_le _, rfl⟩
  | t :: l, h => by
    obtain ⟨row, ho⟩ := h t List.mem_cons_self
    obtain ⟨q, e, h1, h2⟩ := stp_py ho
    obtain ⟨qs, es, k1, k2, k3⟩ := stps_pyT l fun t ht => h t (List.mem_cons_of_mem _ ht)
    refine ⟨q :: qs, by simp [toPys, e, es], by simp [PyData.canLayAll0, h1, k1], by simp only [PyData.depthAll]; omega, by simp [k3]⟩
theorem gEq_steps {nz : Nat} {l : List Stp} (hok : ∀ u, u ∈ l → ∃ row, u.OK nz row) : gEq S (.lst (l.map Stp.d)) (.lst []) = some (.bl (decide (l = []))) := by
  obtain ⟨qs, es, k1, k2, k3⟩ := stps_pyT l hok
  have e1 : toPyS S (.lst (l.map Stp.d)) = some (.list qs) := by simp only [toPyS, toPy, es]; rfl
  have e2 : toPyS S (.lst []) = some (.list []) := rfl
  cases l with
  | nil =>
    cases qs with
    | nil =>
      unfold gEq eqD
      simp only [e1, e2]
      simp [SeqAt.shaped, PyData.canLay0, PyData.canLayAll0, PyData.depth, PyData.depthAll, PyData.eqv]
      rfl
    | cons => cases k3
  | cons t l =>
    cases qs with
    | nil => simp at k3
    | cons p ps =>
      unfold gEq eqD
      simp only [e1, e2]
      have k2' : PyData.depthAll (p :: ps) ≤ 1 := k2
      have z0 : PyData.depthAll [] = 0 := rfl
      simp [SeqAt.shaped, PyData.canLay0, k1, PyData.canLayAll0, PyData.depth, PyData.eqv]
      exact ⟨⟨⟨by simpa [PyData.canLayAll0] using k1, by omega⟩, by omega⟩, rfl⟩
theorem words_open_does {k : Nat} {nz : Nat} {ts : List Stp} {a : Int} {ed : Bool} {Q : D → Sto → Prop} (hr : S[r]? = some (.lst (row.map Kd.d))) (hk : S[k]? = some (.lst (ts.map Stp.d))) (hok : ∀ t, t ∈ ts → ∃ row, t.OK nz row)
    (q : ∀ ws : List Str, ws ≠ [] → ws.length ≤ 60 → (∀ w, w ∈ ws → NW row a 1 (if ed = true ∧ ts.filter Stp.isEd = [] then 1 else 0) w) → Q (.lst (ws.map D.str)) S) :
    (m_law_words_open [.cell r, .cell k, .int a, .bl ed] S).Does Q := by
  refine does_def rfl ?_
  have hsp := in_row hr .spn
  have hrd := in_row hr .rdg
  simp only [Kd.s] at hsp hrd
  obtain ⟨c, hc⟩ : ∃ c : Int, c = if ed = true ∧ ts.filter Stp.isEd = [] then 1 else 0 := ⟨_, rfl⟩
  rw [← hc] at q
  refine seq_cut (fun ρ S' => S = S' ∧ ∃ ws : List Str, ρ = [some (.cell r), some (.cell k), some (.int a), some (.bl ed), some (.lst (ws.map D.str)), none] ∧ ws ≠ [] ∧ ws.length ≤ 1 ∧ ∀ w, w ∈ ws → NW row a 1 c w) (fun M hM => ?_) ?_
  · simp
    exact hM _ _ ⟨rfl, ["add"], rfl, by simp, by simp, by simp [NW]⟩
  rintro ρ _ ⟨rfl, ws, rfl, ne, ll, hw⟩
  refine seq_cut (fun ρ S' => S = S' ∧ ∃ (ws : List Str) (x5 : Option D), ρ = [some (.cell r), some (.cell k), some (.int a), some (.bl ed), some (.lst (ws.map D.str)), x5] ∧ ws ≠ [] ∧ ws.length ≤ 10 ∧ ∀ w, w ∈ ws → NW row a 1 c w) (fun M hM => ?_) ?_
  · by_cases ca : 0 < a
    · have edL : ∀ (x4 : D) (K : List D → Sto → Prop), K ((ts.filter Stp.isEd).map Stp.d) S → LcAQ (D.cell k) (tgN 5) (mOp gEq (mOp gIx (mVar 5) (mK (.int 0))) (mK (.str "edition"))) (mVar 5) [some (.cell r), some (.cell k), some (.int a), some (.bl ed), some x4, none] ts.length S K := by
        intro x4 K hK
        refine lcAQ_ext (fun S' => S = S') Stp.isEd Stp.d rfl (fun S' h => by subst h; rw [seqOf_cell hk]) rfl (fun t _ S1 h => ?_) (fun S' h => by subst h; exact hK)
        subst h
        refine ⟨_, rfl, ?_, fun S2 h2 ht => ?_⟩
        · cases t <;> simp (decide := true) [Stp.d, Stp.isEd]
        · simp
          exact h2
      have fin : ∀ us : List Str, us.length ≤ 7 → (∀ w, w ∈ us → NW row a 1 c w) → M [some (.cell r), some (.cell k), some (.int a), some (.bl ed), some (.lst ((ws ++ us).map D.str)), none] S := fun us hl hu => hM _ _ ⟨rfl, _, _, rfl, by simp [ne], by simp; omega, fun w h => by
        rcases List.mem_append.mp h with h | h
        · exact hw w h
        · exact hu w h⟩
      have edE := gEq_steps (S := S) (l := ts.filter Stp.isEd) fun u hu => hok u (List.mem_filter.mp hu).1
      have nR : NW row a 1 c "read" := by simp [NW, ca]
      have nO : NW row a 1 c "offset" := by simp [NW, ca]
      simp [ca, hrd, seqOf_cell hk]
      refine ⟨by omega, ?_⟩
      by_cases h2 : Kd.rdg ∈ row
      · have nF : NW row a 1 c "find" := by simp [NW, ca, h2]
        simp [h2]
        refine ⟨by omega, ?_⟩
        cases he : ed with
        | false =>
          subst he
          simp
          have := fin ["read", "read", "offset", "find", "find", "find"] (by simp) (by simp [nR, nO, nF])
          simpa using this
        | true =>
          subst he
          simp
          refine edL _ _ ?_
          rw [edE]
          simp
          by_cases h3 : ts.filter Stp.isEd = []
          · have nE : NW row a 1 c "edition" := by simp [NW, ca, hc, h3]
            have h3' : ∀ (a : Stp), a ∈ ts → a.isEd = false := fun a ha => by simpa using List.filter_eq_nil_iff.mp h3 a ha
            rw [if_pos h3']
            refine ⟨by omega, ?_⟩
            have := fin ["read", "read", "offset", "find", "find", "find", "edition"] (by simp) (by simp [nR, nO, nF, nE])
            simpa using this
          · rw [if_neg fun h => h3 (List.filter_eq_nil_iff.mpr fun a ha => by simp [h a ha])]
            have := fin ["read", "read", "offset", "find", "find", "find"] (by simp) (by simp [nR, nO, nF])
            simpa using this
      · simp [h2]
        cases he : ed with
        | false =>
          subst he
          simp
          have := fin ["read", "read", "offset"] (by simp) (by simp [nR, nO])
          simpa using this
        | true =>
          subst he
          simp
          refine edL _ _ ?_
          rw [edE]
          simp
          by_cases h3 : ts.filter Stp.isEd = []
          · have nE : NW row a 1 c "edition" := by simp [NW, ca, hc, h3]
            have h3' : ∀ (a : Stp), a ∈ ts → a.isEd = false := fun a ha => by simpa using List.filter_eq_nil_iff.mp h3 a ha
            rw [if_pos h3']
            refine ⟨by omega, ?_⟩
            have := fin ["read", "read", "offset", "edition"] (by simp) (by simp [nR, nO, nE])
            simpa using this
          · rw [if_neg fun h => h3 (List.filter_eq_nil_iff.mpr fun a ha => by simp [h a ha])]
            have := fin ["read", "read", "offset"] (by simp) (by simp [nR, nO])
            simpa using this
    · simp [ca]
      exact hM _ _ ⟨rfl, ws, _, rfl, ne, by omega, hw⟩
  rintro ρ _ ⟨rfl, ws, x5, rfl, ne, ll, hw⟩
  have fin : ∀ us : List Str, us.length ≤ 7 → (∀ w, w ∈ us → NW row a 1 c w) → Q (.lst ((ws ++ us).map D.str)) S := fun us hl hu => q _ (by simp [ne]) (by simp; omega) fun w h => by
    rcases List.mem_append.mp h with h | h
    · exact hw w h
    · exact hu w h
  by_cases h1 : Kd.spn ∈ row
  · have nP : NW row a 1 c "plus" := by simp [NW, h1]
    by_cases h2 : Kd.rdg ∈ row
    · have nL : NW row a 1 c "less" := by simp [NW, h1, h2]
      simp [h1, h2, hsp, hrd]
      refine ⟨by omega, by omega, ?_⟩
      have := fin ["plus", "less", "less"] (by simp) (by simp [nP, nL])
      simpa using this
    · simp [h1, h2, hsp, hrd]
      refine ⟨by omega, ?_⟩
      have := fin ["plus"] (by simp) (by simp [nP])
      simpa using this
  · simp [h1, hsp]
    exact q ws ne (by omega) hw
end
end Dm
set_option maxHeartbeats 1000000
namespace Dm
open PySem L2
section
variable {S : Sto} {p n r : Nat} {row : List Kd} {nz : Nat}
noncomputable def kdW : List (Key × D) := [(.inr "find", .lst [.str "reading"]), (.inr "less", .lst [.str "reading"]), (.inr "add", .lst [.str "moment", .str "reading"])]
theorem kdW_eq : keysD [(D.str (Str.ofString "find"), D.lst [D.str (Str.ofString "reading")]), (D.str (Str.ofString "less"), D.lst [D.str (Str.ofString "reading")]), (D.str (Str.ofString "add"), D.lst [D.str (Str.ofString "moment"), D.str (Str.ofString "reading")])] = some kdW := rfl
theorem kdW_m : mergeD [] kdW = kdW := rfl
theorem draw_step_does {ws : List Str} {ms : List Int} {a c : Int} {Q : D → Sto → Prop} (hp : Bag p (n + 10) S) (hz : 0 < nz ∧ nz ≤ 2) (hr : S[r]? = some (.lst (row.map Kd.d))) (hrp : r ≠ p) (hm : .mom ∈ row) (hl : row.length ≤ 60)
    (ne : ws ≠ []) (wl : ws.length ≤ 60) (hw : ∀ w, w ∈ ws → NW row a 1 c w) (ml : ms.length = 8) (hms : ∀ m, m ∈ ms → -100000 ≤ m ∧ m ≤ 100000)
    (q : ∀ t S', Bag p n S' → GoB p S S' → PGood nz row a 1 c t → Q t.d S') : (m_law_draw_step [.cell p, .int nz, .cell r, .lst (ws.map D.str), .lst (ms.map D.int)] S).Does Q := by
  have wp : 0 < ws.length := List.length_pos_iff.mpr ne
  refine does_def rfl ?_
  refine seq_cut (fun ρ S' => ∃ w, ρ = [some (.cell p), some (.int nz), some (.cell r), some (.lst (ws.map D.str)), some (.lst (ms.map D.int)), some (.str w), none, none] ∧ Bag p (n + 9) S' ∧ GoB p S S' ∧ NW row a 1 c w) (fun M hM => ?_) ?_
  · simp
    refine pick2_does (n := n + 9) hp (by omega) (by omega) fun v S1 b1 g1 r0 r1 => ?_
    obtain ⟨x, hx, e⟩ := atI_memL (l := ws.map D.str) r0 (by simpa using r1)
    obtain ⟨w, hw1, rfl⟩ := List.mem_map.mp hx
    simp [e]
    exact hM _ _ ⟨w, rfl, b1, g1, hw w hw1⟩
  rintro ρ S1 ⟨w, rfl, b1, g1, nw⟩
  clear hw wp wl ne
  refine seq_cut (fun ρ S' => ρ = [some (.cell p), some (.int nz), some (.cell r), some (.lst (ws.map D.str)), some (.lst (ms.map D.int)), some (.str w), some (.cell S1.length), none] ∧ S' = S1 ++ [.dic kdW]) (fun M hM => ?_) ?_
  · simp [kdW_eq, kdW_m]
    exact ⟨by decide, hM _ _ ⟨rfl, rfl⟩⟩
  rintro ρ _ ⟨rfl, rfl⟩
  have e2 : dicOf (S1 ++ [.dic kdW]) (.cell S1.length) = some kdW := dic_new
  have b2 := b1.push (.dic kdW)
  have g2 : GoB p S (S1 ++ [.dic kdW]) := g1.trans (GoB.push _)
  have hr2 := g2.get hr hrp
  generalize S1 ++ [.dic kdW] = S2 at e2 b2 g2 hr2
  have place : ∀ {S3 : Sto} {Q2 : D → Sto → Prop}, Bag p (n + 7) S3 → (∀ (v : Nat) S4, v < nz → Bag p (n + 6) S4 → GoB p S3 S4 → Q2 (.int v) S4) → (m_law_pick_v2 [.cell p, .int nz] S3).Does Q2 := by
    intro S3 Q2 b3 h
    refine pick2_does (n := n + 6) b3 (by omega) (by omega) fun v S4 b4 g4 r0 r1 => ?_
    have ev : v = ((v.toNat : Nat) : Int) := by omega
    rw [ev]
    exact h v.toNat S4 (by omega) b4 g4
  have spt : ∀ (ks : List Kd) (N : Nat) {S3 : Sto} {Q2 : D → Sto → Prop}, Bag p (N + 2) S3 → GoB p S S3 → (∃ k, k ∈ row ∧ k ∈ ks) → (∀ (i : Nat) k S', Bag p N S' → GoB p S3 S' → row[i]? = some k → k ∈ ks → Q2 (.int i) S') → (m_law_draw_spot [.cell p, .cell r, .lst (ks.map Kd.d)] S3).Does Q2 := fun ks N _ _ b3 g3 hk q => draw_spot_does (n := N) b3 (g3.get hr hrp) hrp hk hl q
  have sp7 : ∀ (w : Str) (ks : List Kd), valD kdW (.inr w) = some (.lst (ks.map Kd.d)) ∨ (valD kdW (.inr w) = none ∧ ks = [.mom]) → (∃ k, k ∈ row ∧ k ∈ ks) → ∀ (Rest : MS) {EO : EXO} {N B C : Rho → Sto → Prop} {R : D → Sto → Prop}, (∀ (i : Nat) k S3, Bag p (n + 7) S3 → GoB p S S3 → row[i]? = some k → k ∈ ks → (Rest [some (.cell p), some (.int nz), some (.cell r), some (.lst (ws.map D.str)), some (.lst (ms.map D.int)), some (.str w), some (.cell S1.length), some (.int i)] S3).DoesE EO N R B C) →
      (mSeq (mAsg 7 (mCall m_law_draw_spot (mCons (mVar 0) (mCons (mVar 2) (mCons (mGet2 (mVar 6) (mVar 5) (mFz (mLst (mCons (mK (.str "moment")) mNil)))) mNil))))) Rest [some (.cell p), some (.int nz), some (.cell r), some (.lst (ws.map D.str)), some (.lst (ms.map D.int)), some (.str w), some (.cell S1.length), none] S2).DoesE EO N R B C := by
    intro w ks hv hk Rest EO N B C R h
    have hd : (valD kdW (.inr w)).getD (.lst [.str "moment"]) = .lst (ks.map Kd.d) := by
      rcases hv with hv | ⟨hv, rfl⟩ <;> rw [hv] <;> rfl
    simp [e2, hd]
    exact Res.Does.toE <| spt ks (n + 7) (S3 := S2) b2 g2 hk fun i k S3 b3 g3 hi hk => h i k S3 b3 (g2.trans g3) hi hk
  rcases nw with rfl | ⟨rfl, h1⟩ | ⟨rfl, h1, h2⟩ | ⟨ha, nw⟩
  · refine sp7 _ [.mom, .rdg] (.inl rfl) ⟨.mom, hm, by simp⟩ _ fun i k S3 b3 g3 hi hk => ?_
    simp
    refine pick2_does (n := n + 6) b3 (by omega) (by omega) fun v S4 b4 g4 r0 r1 => ?_
    obtain ⟨x, hx, e⟩ := atI_memL (l := ms.map D.int) r0 (by rw [List.length_map]; omega)
    obtain ⟨m, hm1, rfl⟩ := List.mem_map.mp hx
    simp [e]
    refine q (.add i m) S4 (b4.mono (by omega)) (g3.trans g4) ⟨⟨?_, hms m hm1⟩, fun h => (nomatch h), fun h => (nomatch h), fun h => (nomatch h)⟩
    simp at hk
    rcases hk with rfl | rfl
    · exact .inl hi
    · exact .inr hi
  · refine sp7 _ [.mom] (.inr ⟨rfl, rfl⟩) ⟨.mom, hm, by simp⟩ _ fun i k S3 b3 g3 hi hk => ?_
    simp at hk
    subst hk
    simp (decide := true)
    refine spt [.spn] (n + 5) (S3 := S3) b3 g3 ⟨.spn, h1, by simp⟩ fun j k S4 b4 g4 hj hk => ?_
    simp at hk
    subst hk
    exact q (.plus i j) S4 (b4.mono (by omega)) (g3.trans g4) ⟨⟨hi, hj⟩, fun h => (nomatch h), fun h => (nomatch h), fun h => (nomatch h)⟩
  · refine sp7 _ [.rdg] (.inl rfl) ⟨.rdg, h2, by simp⟩ _ fun i k S3 b3 g3 hi hk => ?_
    simp at hk
    subst hk
    simp (decide := true)
    refine spt [.spn] (n + 5) (S3 := S3) b3 g3 ⟨.spn, h1, by simp⟩ fun j k S4 b4 g4 hj hk => ?_
    simp at hk
    subst hk
    exact q (.less i j) S4 (b4.mono (by omega)) (g3.trans g4) ⟨⟨hi, hj⟩, fun h => (nomatch h), fun h => (nomatch h), fun h => (nomatch h)⟩
  rcases nw with rfl | rfl | ⟨rfl, hc⟩ | ⟨rfl, hb, h2⟩
  · refine sp7 _ [.mom] (.inr ⟨rfl, rfl⟩) ⟨.mom, hm, by simp⟩ _ fun i k S3 b3 g3 hi hk => ?_
    simp at hk
    subst hk
    simp (decide := true)
    refine place b3 fun v S4 hv b4 g4 => ?_
    exact q (.read i v) S4 (b4.mono (by omega)) (g3.trans g4) ⟨⟨hi, hv⟩, fun _ => ha, fun h => (nomatch h), fun h => (nomatch h)⟩
  · refine sp7 _ [.mom] (.inr ⟨rfl, rfl⟩) ⟨.mom, hm, by simp⟩ _ fun i k S3 b3 g3 hi hk => ?_
    simp at hk
    subst hk
    simp (decide := true)
    refine place b3 fun v S4 hv b4 g4 => ?_
    exact q (.offset i v) S4 (b4.mono (by omega)) (g3.trans g4) ⟨⟨hi, hv⟩, fun _ => ha, fun h => (nomatch h), fun h => (nomatch h)⟩
  · refine sp7 _ [.mom] (.inr ⟨rfl, rfl⟩) ⟨.mom, hm, by simp⟩ _ fun i k S3 b3 g3 hi hk => ?_
    simp at hk
    subst hk
    simp (decide := true)
    refine place b3 fun v S4 hv b4 g4 => ?_
    exact q (.edition i v) S4 (b4.mono (by omega)) (g3.trans g4) ⟨⟨hi, hv⟩, fun _ => ha, fun h => (nomatch h), fun _ => hc⟩
  · refine sp7 _ [.rdg] (.inl rfl) ⟨.rdg, h2, by simp⟩ _ fun i k S3 b3 g3 hi hk => ?_
    simp at hk
    subst hk
    simp (decide := true)
    refine place b3 fun v S4 hv b4 g4 => ?_
    refine rule2_does (n := n + 4) b4 fun f g S5 b5 g5 hf hg => ?_
    simp
    exact q (.find i v f g) S5 (b5.mono (by omega)) (g3.trans (g4.trans g5)) ⟨⟨hi, hv, hf, hg⟩, fun _ => ha, fun _ => hb, fun h => (nomatch h)⟩
end
end Dm
set_option maxHeartbeats 1000000
namespace Dm
open PySem L2
theorem progFrom_memT {nz : Nat} : ∀ {ts : List Stp} {row : List Kd}, ProgFrom nz row ts → ∀ t, t ∈ ts → ∃ row, t.OK nz row
  | [], _, _, _, h => nomatch h
  | u :: ts, row, ⟨a, b⟩, t, h => by
    rcases List.mem_cons.mp h with rfl | h
    · exact ⟨row, a⟩
    · exact progFrom_memT b t h
theorem gInConv {S : Sto} {t : Stp} : ∃ w, gIx S t.d (.int 0) = some (.str w) ∧ gIn false S (.str w) (.lst [.str "read", .str "find", .str "offset", .str "edition"]) = some (.bl t.isConv) := by
  cases t <;> exact ⟨_, rfl, by simp (decide := true) [gIn, Stp.isConv, eqF]⟩
section
variable {S : Sto} {p n r : Nat} {nz : Nat}
theorem draw_tale_does {ts0 : List Stp} {ms : List Int} {size left : Int} {ed : Bool} {Q : D → Sto → Prop} (hp : Bag p (n + 10 * (size - ts0.length).toNat) S) (hz : 0 < nz ∧ nz ≤ 2) (h0 : ProgFrom nz [.mom] ts0) (hs : size ≤ 8) (h8 : ts0.length ≤ 8) (he0 : cnt Stp.isEd ts0 ≤ 1)
    (ml : ms.length = 8) (hms : ∀ m, m ∈ ms → -100000 ≤ m ∧ m ≤ 100000) (sl : -60 ≤ size)
    (q : ∀ ts S', Bag p n S' → GoB p S S' → ProgFrom nz [.mom] (ts0 ++ ts) → ts.length = (size - ts0.length).toNat → (cnt Stp.isConv ts ≤ left ∨ cnt Stp.isConv ts = 0) → cnt Stp.isEd (ts0 ++ ts) ≤ 1 → (ed = false → cnt Stp.isEd ts = 0) → Q (progD (ts0 ++ ts)) S') :
    (m_law_draw_tale [.cell p, .int nz, .int size, .int left, .bl ed, .lst (ms.map D.int), progD ts0] S).Does Q := by
  have pl := hp.lt
  refine does_def rfl ?_
  refine seq_cut (fun ρ S' => ρ = [some (.cell p), some (.int nz), some (.int size), some (.int left), some (.bl ed), some (.lst (ms.map D.int)), some (progD ts0), some (.cell S.length), none, none, none] ∧ S' = S ++ [.lst (ts0.map Stp.d)]) (fun M hM => ?_) ?_
  · simp [progD]
    exact hM _ _ ⟨rfl, rfl⟩
  rintro ρ _ ⟨rfl, rfl⟩
  have b1 := hp.push (Cell.lst (ts0.map Stp.d))
  have g1 : GoB p S (S ++ [Cell.lst (ts0.map Stp.d)]) := GoB.push _
  have c1 : (S ++ [Cell.lst (ts0.map Stp.d)])[S.length]? = some (.lst (ts0.map Stp.d)) := by simp
  have l1 : (S ++ [Cell.lst (ts0.map Stp.d)]).length = S.length + 1 := by simp
  generalize hT : S.length = T at *
  generalize S ++ [Cell.lst (ts0.map Stp.d)] = S1 at b1 g1 c1 l1
  refine seq_cut (fun ρ S' => ρ = [some (.cell p), some (.int nz), some (.int size), some (.int left), some (.bl ed), some (.lst (ms.map D.int)), some (progD ts0), some (.cell T), some (.cell (T + 1)), none, none] ∧ Bag p (n + 10 * (size - ts0.length).toNat) S' ∧ GoB p S S' ∧ S'[T]? = some (.lst (ts0.map Stp.d)) ∧ S'[T + 1]? = some (.lst ((kindsFrom [.mom] ts0).map Kd.d))) (fun M hM => ?_) ?_
  · simp
    refine kinds_in_does h0 (by omega) fun S2 g2 l2 e2 => ?_
    rw [l1] at e2
    rw [l1]
    exact hM _ _ ⟨rfl, b1.growT g2, g1.trans g2.gobT, g2.get c1, e2⟩
  rintro ρ S2 ⟨rfl, b2, g2, c2, d2⟩
  clear b1 g1 c1 l1
  refine seq_cut (fun ρ S' => ∃ (ts : List Stp) (x3 x9 x10 : Option D), ρ = [some (.cell p), some (.int nz), some (.int size), x3, some (.bl ed), some (.lst (ms.map D.int)), some (progD ts0), some (.cell T), some (.cell (T + 1)), x9, x10] ∧ Bag p n S' ∧ GoB p S S' ∧ S'[T]? = some (.lst ((ts0 ++ ts).map Stp.d)) ∧ ProgFrom nz [.mom] (ts0 ++ ts) ∧ ts.length = (size - ts0.length).toNat ∧ (cnt Stp.isConv ts ≤ left ∨ cnt Stp.isConv ts = 0) ∧ cnt Stp.isEd (ts0 ++ ts) ≤ 1 ∧ (ed = false → cnt Stp.isEd ts = 0)) (fun M hM => ?_) ?_
  · simp [progD]
    refine ⟨by omega, ?_⟩
    refine forL_cut (fun ds ρ S' => ∃ (ts : List Stp) (x9 x10 : Option D), ρ = [some (.cell p), some (.int nz), some (.int size), some (.int (left - cnt Stp.isConv ts)), some (.bl ed), some (.lst (ms.map D.int)), some (progD ts0), some (.cell T), some (.cell (T + 1)), x9, x10] ∧ Bag p (n + 10 * ds.length) S' ∧ GoB p S S' ∧ S'[T]? = some (.lst ((ts0 ++ ts).map Stp.d)) ∧ S'[T + 1]? = some (.lst ((kindsFrom [.mom] (ts0 ++ ts)).map Kd.d)) ∧ ProgFrom nz [.mom] (ts0 ++ ts) ∧ ts.length + ds.length = (size - ts0.length).toNat ∧ (cnt Stp.isConv ts ≤ left ∨ cnt Stp.isConv ts = 0) ∧ cnt Stp.isEd (ts0 ++ ts) ≤ 1 ∧ (ed = false → cnt Stp.isEd ts = 0)) _
      ⟨[], none, none, by simp [cnt_nil, progD], by rw [rngD_length]; exact b2.mono (by omega), g2, by simpa using c2, by simpa using d2, by simpa using h0, by rw [rngD_length]; simp, .inr cnt_nil, by simpa using he0, fun _ => cnt_nil⟩ ?_ ?_
    · rintro e ds ρ S3 ⟨ts, x9, x10, rfl, b3, g3, c3, d3, hp3, hl3, hc3, he3, hf3⟩
      refine ⟨_, rfl, fun M2 hM2 => ?_⟩
      simp at hl3 b3
      have hk := kindsFrom_length [.mom] (ts0 ++ ts)
      simp at hk
      refine seq_cut (fun ρ S' => ∃ t, ρ = [some (.cell p), some (.int nz), some (.int size), some (.int (left - cnt Stp.isConv ts)), some (.bl ed), some (.lst (ms.map D.int)), some (progD ts0), some (.cell T), some (.cell (T + 1)), some e, some (Stp.d t)] ∧ Bag p (n + 10 * ds.length) S' ∧ GoB p S3 S' ∧ PGood nz (kindsFrom [.mom] (ts0 ++ ts)) (left - cnt Stp.isConv ts) 1 (if ed = true ∧ (ts0 ++ ts).filter Stp.isEd = [] then 1 else 0) t) (fun M hM => ?_) ?_
      · simp
        refine words_open_does d3 c3 (progFrom_memT hp3) fun ws ne wl hw => ?_
        exact draw_step_does (n := n + 10 * ds.length) (b3.mono (by omega)) hz d3 (by omega) (kindsFrom_mem List.mem_cons_self) (by omega) ne wl hw ml hms fun t S4 b4 g4 pg => hM _ _ ⟨t, rfl, b4, g4, pg⟩
      rintro ρ S4 ⟨t, rfl, b4, g4, pg⟩
      refine seq_cut (fun ρ S' => S4 = S' ∧ ρ = [some (.cell p), some (.int nz), some (.int size), some (.int (left - cnt Stp.isConv (ts ++ [t]))), some (.bl ed), some (.lst (ms.map D.int)), some (progD ts0), some (.cell T), some (.cell (T + 1)), some e, some (Stp.d t)]) (fun M hM => ?_) ?_
      · obtain ⟨w, hw1, hw2⟩ := gInConv (S := S4) (t := t)
        simp [hw1, hw2]
        have := hM _ _ ⟨rfl, rfl⟩
        rw [cnt_snoc] at this
        have e : left - cnt Stp.isConv ts - (if t.isConv = true then 1 else 0) = left - (cnt Stp.isConv ts + bI t.isConv) := by unfold bI; omega
        rw [e]
        exact this
      rintro ρ _ ⟨rfl, rfl⟩
      have c4 := g4.get c3 (by omega)
      have d4 := g4.get d3 (by omega)
      refine seq_cut (fun ρ S' => ρ = [some (.cell p), some (.int nz), some (.int size), some (.int (left - cnt Stp.isConv (ts ++ [t]))), some (.bl ed), some (.lst (ms.map D.int)), some (progD ts0), some (.cell T), some (.cell (T + 1)), some e, some (Stp.d t)] ∧ Bag p (n + 10 * ds.length) S' ∧ GoB p S S' ∧ S'[T]? = some (.lst ((ts0 ++ ts).map Stp.d)) ∧ S'[T + 1]? = some (.lst ((kindsFrom [.mom] (ts0 ++ ts ++ [t])).map Kd.d))) (fun M hM => ?_) ?_
      · simp
        refine ⟨⟨_, d4⟩, ?_⟩
        refine sort_behind_does d4 pg.ok fun c => ?_
        have g5 : GoB p S (S4 ++ [c]) := g3.trans (g4.trans (GoB.push c))
        have c5 := (GoB.push (p := p) c).get c4 (show T ≠ p by omega)
        have d5 := (GoB.push (p := p) c).get d4 (show T + 1 ≠ p by omega)
        have hlt := (List.getElem?_eq_some_iff.mp d5).1
        refine ⟨_, d5, by simp; omega, hM _ _ ⟨rfl, (b4.push c).set (by omega) _, g5.setNew (by omega) _, ?_, ?_⟩⟩
        · rw [List.getElem?_set_ne (by omega)]; exact c5
        · rw [List.getElem?_set_self hlt, kindsFrom_snoc, List.map_append] <;> rfl
      rintro ρ S5 ⟨rfl, b5, g5, c5, d5⟩
      have hlt := (List.getElem?_eq_some_iff.mp c5).1
      simp [c5]
      refine ⟨by omega, hM2 _ _ ⟨ts ++ [t], _, _, rfl, b5.set (by omega) _, g5.setNew (by omega) _, ?_, ?_, ?_, by simp; omega, ?_, ?_, ?_⟩⟩
      · rw [List.getElem?_set_self hlt]
        simp
      · rw [List.getElem?_set_ne (by omega), ← List.append_assoc]; exact d5
      · rw [← List.append_assoc]
        exact progFrom_snoc hp3 pg.ok
      · rw [cnt_snoc]
        have := pg.conv
        unfold bI
        split
        · have := this (by assumption); omega
        · omega
      · rw [← List.append_assoc, cnt_snoc]
        have := pg.ed
        unfold bI
        split
        · have := this (by assumption)
          split at this
          · rename_i h
            have z : cnt Stp.isEd (ts0 ++ ts) = 0 := by unfold cnt; rw [h.2]; rfl
            omega
          · omega
        · omega
      · intro he
        have := pg.ed
        rw [if_neg (by rw [he]; simp)] at this
        rw [cnt_snoc, hf3 he]
        unfold bI
        split
        · have := this (by assumption); omega
        · rfl
    · rintro ρ S3 ⟨ts, x9, x10, rfl, b3, g3, c3, d3, hp3, hl3, hc3, he3, hf3⟩
      exact hM _ _ ⟨ts, _, _, _, rfl, b3.mono (by omega), g3, c3, hp3, by simpa using hl3, hc3, he3, hf3⟩
  rintro ρ S3 ⟨ts, x3, x9, x10, rfl, b3, g3, c3, hp3, hl3, hc3, he3, hf3⟩
  simp [gTuple_cell c3]
  rw [← List.map_append]
  exact q ts _ b3 g3 hp3 hl3 hc3 he3 hf3
end
end Dm
set_option maxHeartbeats 1000000
namespace Dm
open PySem L2
end Dm
set_option maxHeartbeats 1000000
namespace Dm
open PySem L2
end Dm
set_option maxHeartbeats 1000000
namespace Dm
open PySem L2
end Dm
set_option maxHeartbeats 1000000
namespace Dm
open PySem L2
section
variable {S : Sto} {zs : Zs} {os : List Int} {s m o : Int} {lk : List Lk} {p n : Nat} {ls : List (Int × Int)} {now : Nat → Option Int}
noncomputable def nwD : Option (Nat × Int) → D
  | none => .non
  | some (p, n) => .tup [.int p, .int n]
end
end Dm
set_option maxHeartbeats 1000000
namespace Dm
open PySem L2
end Dm
set_option maxHeartbeats 1000000
namespace Dm
open PySem L2
section
variable {zs : Zs} {lk b : List Lk} {p k w : Nat} {ts : List Stp} {vs : List Int} {t : Stp} {m : Int} {now : Nat → Option Int} {ms pre suf : List Int}
noncomputable def edN : List Stp → List Int → Option (Nat × Int)
  | t :: ts, v :: vs => if t.isEd = true then some (t.place, v) else edN ts vs
  | _, _ => none
noncomputable def nowN (ts : List Stp) (vs : List Int) : Option (Nat × Int) := edN ts (vs.drop 1)
noncomputable def subL (zs : Zs) (ts : List Stp) (lk : List Lk) (vs : List Int) : List Case := dfsL zs ts (ts.length + 1 - vs.length) (vs.length - 1) (lk, vs, none)
noncomputable def unk (zs : Zs) (ts : List Stp) (lk : List Lk) (vs : List Int) : List Int := (askedS zs vs (ts.getD (vs.length - 1) (.add 0 0))).filter fun m => (known lk (ts.getD (vs.length - 1) (.add 0 0)).place (edOf (nowOf ts vs (ts.getD (vs.length - 1) (.add 0 0)).place) m) m).isNone
noncomputable def gW (w c : Nat) : Nat → Nat
  | 0 => 1 + c
  | a + 1 => 1 + w * gW w c a
noncomputable def cW (w : Nat) : List Stp → Nat
  | [] => 1
  | t :: r => gW w (cW w r) (wt w t)
noncomputable def wgt (w : Nat) (zs : Zs) (ts : List Stp) (lk : List Lk) (vs : List Int) : Nat := if vs.length ≤ ts.length then gW w (cW w (ts.drop vs.length)) (unk zs ts lk vs).length else 1
end
end Dm
set_option maxHeartbeats 1000000
namespace Dm
open PySem L2
abbrev Sta := List Lk × List Int
noncomputable def stD (ts : List Stp) (x : Sta) : D := .tup [.tup (x.1.map lkD), .tup (x.2.map .int), nwD (nowN ts x.2)]
noncomputable def endD (ts : List Stp) (c : Case) : D := .tup [.tup (c.1.map lkD), .tup (c.2.1.map .int), optN c.2.2, nwD (nowN ts c.2.1)]
structure SeW (zs : Zs) (ts : List Stp) (x : Sta) : Prop where
  w : LkW zs (nowOf ts x.2) x.1
  f : FitA zs (nowOf ts x.2) x.1
  v1 : 1 ≤ x.2.length
  v2 : x.2.length ≤ ts.length + 1
  lb : x.1.length + (unk zs ts x.1 x.2).length + 3 * (ts.length - x.2.length) ≤ 300
end Dm
set_option maxHeartbeats 1000000
namespace Dm
open PySem L2
abbrev rC (zs : Zs) (ts : List Stp) (bg : D) (d q : Nat) (x5 x6 x7 x8 x9 x10 x11 x12 x13 x14 x15 x16 : Option D) : Rho := [some (zonesD zs), some (progD ts), some bg, some (.cell d), some (.cell q), x5, x6, x7, x8, x9, x10, x11, x12, x13, x14, x15, x16]
section
variable {S0 S : Sto} {zs : Zs} {ts : List Stp} {lk : List Lk} {vs : List Int} {w d q : Nat} {bg : D} {dn : List Case} {init : List Sta} {EO : EXO} {B : Rho → Sto → Prop} {R : D → Sto → Prop}
noncomputable def subS (zs : Zs) (ts : List Stp) (x : Sta) : List Case := subL zs ts x.1 x.2
noncomputable def wgS (w : Nat) (zs : Zs) (ts : List Stp) (x : Sta) : Nat := wgt w zs ts x.1 x.2
structure Turn (zs : Zs) (ts : List Stp) (w d q : Nat) (bg : D) (S0 : Sto) (dn : List Case) (init : List Sta) (x : Sta) (ρ : Rho) (S : Sto) : Prop where
  env : ∃ x5 x6 x7 x8 x9 x10 x11 x12 x13 x14 x15 x16, ρ = rC zs ts bg d q x5 x6 x7 x8 x9 x10 x11 x12 x13 x14 x15 x16
  g : Grow S0 S
  ex : ∃ (dn' : List Case) (st : List Sta), S[d]? = some (.lst (dn'.map (endD ts))) ∧ S[q]? = some (.lst (st.map (stD ts))) ∧ (∀ y, y ∈ st → y ∈ init ∨ SeW zs ts y) ∧
    dn' ++ st.reverse.flatMap (subS zs ts) = dn ++ (init ++ [x]).reverse.flatMap (subS zs ts) ∧ (st.map (wgS w zs ts)).sum + 1 ≤ ((init ++ [x]).map (wgS w zs ts)).sum ∧ dn'.length ≤ dn.length + 1
end
end Dm
set_option maxHeartbeats 1000000
namespace Dm
open PySem L2
end Dm
set_option maxHeartbeats 1000000
namespace Dm
open PySem L2
end Dm
set_option maxHeartbeats 1000000
namespace Dm
open PySem L2
section
variable {S : Sto} {zs : Zs} {ts : List Stp} {vs : List Int} {lk : List Lk} {n i a b : Nat} {row : List Kd} {k : Kd}
noncomputable def HourI (row : List Kd) (i : Nat) : Prop := ∃ k, row[i]? = some k ∧ k ≠ .spn
theorem is_hour_ok (hn : S[n]? = some (.lst (row.map Kd.d))) (h : HourI row i) : m_is_hour [.cell n, .int i] S = .ok (.bl true) S := by
  obtain ⟨k, h, hk⟩ := h
  refine pure_of fun Q q => ?_
  refine does_def rfl ?_
  obtain ⟨h1, h2, h3⟩ := row_at hn h
  cases k with
  | spn => exact absurd rfl hk
  | mom => simp (decide := true) [h1, h2, h3, Kd.s]; exact q
  | rdg => simp (decide := true) [h1, h2, h3, Kd.s]; exact q
end
end Dm
namespace Dm
open PySem L2
end Dm
namespace Dm
open PySem L2
end Dm
namespace Dm
open PySem L2
end Dm
namespace Dm
open PySem L2
end Dm
namespace Dm
open PySem L2
end Dm
namespace Dm
open PySem L2
inductive Rel2 {α β : Type} (P : α → β → Prop) : List α → List β → Prop
  | nil : Rel2 P [] []
  | cons {a b as bs} : P a b → Rel2 P as bs → Rel2 P (a :: as) (b :: bs)
theorem Rel2.len {α β : Type} {P : α → β → Prop} {as : List α} {bs : List β} (h : Rel2 P as bs) : bs.length = as.length := by
  induction h with
  | nil => rfl
  | cons _ _ ih => rw [List.length_cons, List.length_cons, ih]
theorem Rel2.mem {α β : Type} {P : α → β → Prop} {as : List α} {bs : List β} (h : Rel2 P as bs) {b : β} (hb : b ∈ bs) : ∃ a, a ∈ as ∧ P a b := by
  induction h with
  | nil => cases hb
  | @cons a b' _ _ p _ ih =>
    rcases List.mem_cons.mp hb with rfl | hb
    · exact ⟨a, List.mem_cons_self, p⟩
    · obtain ⟨a, h1, h2⟩ := ih hb
      exact ⟨a, List.mem_cons_of_mem _ h1, h2⟩
theorem rngD_map {lo : Int} {n : Nat} : rngD lo n = ((List.range n).map fun (i : Nat) => lo + i).map D.int := by
  unfold rngD
  rw [List.map_map] <;> rfl
end Dm
set_option maxHeartbeats 1000000
namespace Dm
open PySem L2
theorem law_loop2 {right : List D → Sto → Res D} {k : Int} (h : ∀ p S, Bag p 9223372036854775808 S → (right [.cell p] S).Does fun d _ => d = .bl true) :
    LawTrue (mDef 1 2 (mSeq (mForA (mCall m_law_cells (mCons (mVar 0) (mCons (mK (.int k)) mNil))) (tgN 1) (mIfS (mNot (mCall right (mCons (mCall m_law_make_pot_v2 (mCons (mVar 1) mNil)) mNil))) (mRet (mK (.bl false))) mNop)) (mRet (mK (.bl true))))) := by
  intro ns hl
  have cells : ∀ {Q : D → Sto → Prop}, (∀ cs : List Int, Q (.lst (cs.map .int)) []) → (m_law_cells [.lst (ns.map .int), .int k] []).Does Q := by
    intro Q q
    refine does_def rfl ?_
    have cl : (cutD (ns.map .int) none (some k)).length ≤ 63 := Nat.le_trans cut_len (by rw [List.length_map]; exact hl)
    obtain ⟨cs, hcs⟩ : ∃ cs : List Int, cutD (ns.map D.int) none (some k) = cs.map .int := by
      have all : ∀ d, d ∈ cutD (ns.map D.int) none (some k) → ∃ c : Int, d = .int c := fun d hd => by
        obtain ⟨c, _, rfl⟩ := List.mem_map.mp (cut_mem hd)
        exact ⟨c, rfl⟩
      generalize cutD (ns.map D.int) none (some k) = l at all
      clear cl q
      induction l with
      | nil => exact ⟨[], rfl⟩
      | cons d l ih =>
        obtain ⟨c, rfl⟩ := all d List.mem_cons_self
        obtain ⟨cs, rfl⟩ := ih fun d hd => all d (List.mem_cons_of_mem _ hd)
        exact ⟨c :: cs, rfl⟩
    have lc : (cutD (ns.map D.int) none (some k)).length = cs.length := by rw [hcs, List.length_map]
    have q := q (1600000000000000000000000000000000731 :: cs)
    rw [does_ret]
    simp only [does_fz, does_catL, does_lst, does_cons, does_k, does_nil, does_slL, does_var, List.getElem?_cons_zero, List.getElem?_cons_succ, does_noPart, does_part, lstOf_lst, hcs, List.singleton_append]
    refine ⟨by simp, ?_⟩
    refine ⟨by simp; omega, ?_⟩
    rw [List.map_cons, ← hcs] at q
    exact q
  have main : (mDef 1 2 (mSeq (mForA (mCall m_law_cells (mCons (mVar 0) (mCons (mK (.int k)) mNil))) (tgN 1) (mIfS (mNot (mCall right (mCons (mCall m_law_make_pot_v2 (mCons (mVar 1) mNil)) mNil))) (mRet (mK (.bl false))) mNop)) (mRet (mK (.bl true)))) [.lst (ns.map .int)] []).Does fun d _ => d = .bl true := by
    refine does_def rfl ?_
    rw [does_seq, does_forA]
    simp only [does_call, does_cons, does_nil, does_var, does_k, List.getElem?_cons_zero]
    refine Res.Does.toE (cells fun cs => ?_)
    rw [forAS_lst]
    refine forL_cut (fun ds ρ S' => (∀ d, d ∈ ds → ∃ c : Int, d = .int c) ∧ ∃ y, ρ = [some (.lst (ns.map .int)), y]) _ ⟨?_, none, rfl⟩ ?_ ?_
    · intro d hd
      obtain ⟨c, _, rfl⟩ := List.mem_map.mp hd
      exact ⟨c, rfl⟩
    · rintro d r ρ S' ⟨hd, y, rfl⟩
      obtain ⟨c, rfl⟩ := hd d List.mem_cons_self
      refine ⟨_, rfl, fun M hM => ?_⟩
      simp
      refine make_pot_does fun S1 b1 g1 => ?_
      obtain ⟨d, S2, e, rfl⟩ := (h _ _ b1).eq
      rw [e]
      simp
      exact hM _ _ ⟨fun d h => hd d (List.mem_cons_of_mem _ h), _, rfl⟩
    · rintro ρ S' _
      rfl
  obtain ⟨d, S', e, rfl⟩ := main.eq
  exact ⟨S', e⟩
section
variable {S : Sto} {zs : Zs} {ts : List Stp} {p n : Nat} {row : List Kd}
noncomputable def hoursL (row : List Kd) : List Nat := (List.range row.length).filter fun i => !(row.getD i .spn == .spn)
theorem hours_mem {i : Nat} (h : i ∈ hoursL row) : HourI row i := by
  obtain ⟨h1, h2⟩ := List.mem_filter.mp h
  have h1 := List.mem_range.mp h1
  refine ⟨row[i], List.getElem?_eq_getElem h1, fun e => ?_⟩
  rw [List.getD_eq_getElem?_getD, List.getElem?_eq_getElem h1] at h2
  simp [e] at h2
theorem hours_zero {k : Kd} {r : List Kd} (hk : k ≠ .spn) : 0 ∈ hoursL (k :: r) := by
  refine List.mem_filter.mpr ⟨List.mem_range.mpr (by simp), ?_⟩
  simp
  exact hk
theorem hours_len : (hoursL row).length ≤ row.length := by
  unfold hoursL
  refine Nat.le_trans (List.length_filter_le _ _) ?_
  rw [List.length_range]
  exact Nat.le_refl _
theorem kinds_head : ∀ {ts : List Stp} {k : Kd} {r : List Kd}, ∃ r', kindsFrom (k :: r) ts = k :: r'
  | [], k, r => ⟨r, rfl⟩
  | t :: ts, k, r => by
    show ∃ r', kindsFrom ((k :: r) ++ _) ts = k :: r'
    rw [List.cons_append]
    exact kinds_head
theorem hours_pos : 0 ∈ hoursL (kindsFrom [.mom] ts) := by
  obtain ⟨r', e⟩ := kinds_head (ts := ts) (k := .mom) (r := [])
  rw [e]
  exact hours_zero (by decide)
noncomputable def hoursD (ts : List Stp) : List D := (hoursL (kindsFrom [.mom] ts)).map fun i : Nat => D.int i
theorem hours_in_does {m : Nat} {Q : D → Sto → Prop} (h : ProgFrom m [.mom] ts) (hl : ts.length ≤ 60) (q : ∀ S', Grow S S' → Q (.lst (hoursD ts)) S') : (m_law_hours_in [progD ts] S).Does Q := by
  refine does_def rfl ?_
  refine seq_cut (fun ρ S' => ∃ c, ρ = [some (progD ts), some (.cell c), none] ∧ Grow S S' ∧ S'[c]? = some (.lst ((kindsFrom [.mom] ts).map Kd.d))) (fun M hM => ?_) ?_
  · simp
    refine kinds_in_does h hl fun S1 g1 l1 c1 => ?_
    exact hM _ _ ⟨_, rfl, g1, c1⟩
  rintro ρ S1 ⟨c, rfl, g1, c1⟩
  have len : (kindsFrom [.mom] ts).length = ts.length + 1 := by rw [kindsFrom_length]; simp; omega
  have gl : gLen S1 [.cell c] = some (.int ((ts.length + 1 : Nat) : Int)) := by rw [gLen_cell c1, List.length_map, len]
  simp [gl, wipeD]
  refine ⟨by omega, ?_⟩
  have e1 : rngD 0 (ts.length + 1) = (List.range (ts.length + 1)).map fun i : Nat => D.int i := by
    rw [rngD_map, List.map_map]
    refine List.map_congr_left fun i _ => ?_
    simp
  rw [e1]
  refine lcQ_filter (as := List.range (ts.length + 1)) (i := fun i : Nat => D.int i) (fun i => !((kindsFrom [.mom] ts).getD i .spn == .spn)) (fun i : Nat => D.int i) ?_ ?_
  · intro i hi
    have hi := List.mem_range.mp hi
    have hi' : i < (kindsFrom [.mom] ts).length := by omega
    have ei := List.getElem?_eq_getElem hi'
    obtain ⟨h1, h2, h3⟩ := row_at c1 ei
    refine ⟨_, rfl, fun Q q => ?_, fun Q _ q => ?_⟩
    · rw [List.getD_eq_getElem?_getD, ei] at q
      generalize (kindsFrom [Kd.mom] ts)[i] = k at h1 q
      cases k <;> (simp (decide := true) [h1, Kd.s] at q ⊢; exact q)
    · simp; exact q
  · have q := q S1 g1
    unfold hoursD hoursL at q
    rw [len] at q
    exact q
theorem hoursD_len (hl : ts.length ≤ 60) : 0 < (hoursD ts).length ∧ (hoursD ts).length ≤ 61 := by
  have l1 : 0 < (hoursL (kindsFrom [.mom] ts)).length := List.length_pos_of_mem hours_pos
  have l2 := hours_len (row := kindsFrom [.mom] ts)
  rw [kindsFrom_length] at l2
  simp at l2
  have e : (hoursD ts).length = (hoursL (kindsFrom [.mom] ts)).length := by unfold hoursD; rw [List.length_map]
  omega
theorem hour_at {v : Int} (h0 : 0 ≤ v) (h1 : v < (hoursD ts).length) : ∃ i : Nat, HourI (kindsFrom [.mom] ts) i ∧ atI (hoursD ts) v = some (.int i) := by
  have e : (hoursD ts).length = (hoursL (kindsFrom [.mom] ts)).length := by unfold hoursD; rw [List.length_map]
  have hv : v.toNat < (hoursL (kindsFrom [.mom] ts)).length := by omega
  refine ⟨_, hours_mem (List.getElem_mem hv), ?_⟩
  rw [atI_of (by omega) (by omega)]
  unfold hoursD
  rw [List.getElem?_map, List.getElem?_eq_getElem hv]; rfl
theorem pick_hour {Q : D → Sto → Prop} (hp : Bag p (n + 1) S) (hl : ts.length ≤ 60) (q : ∀ v i S', Bag p n S' → GoB p S S' → HourI (kindsFrom [.mom] ts) i → atI (hoursD ts) v = some (.int (i : Nat)) → Q (.int v) S') :
    (m_law_pick_v2 [.cell p, .int (hoursD ts).length] S).Does Q := by
  obtain ⟨l1, l2⟩ := hoursD_len hl
  refine pick2_does (n := n) hp (by omega) (by omega) fun v S1 b1 g1 r0 r1 => ?_
  obtain ⟨i, h1, h2⟩ := hour_at (ts := ts) r0 r1
  exact q _ i _ b1 g1 h1 h2
end
end Dm
set_option maxHeartbeats 1000000
namespace Dm
open PySem L2
end Dm
set_option maxHeartbeats 1000000
namespace Dm
open PySem L2
end Dm
set_option maxHeartbeats 1000000
namespace Dm
open PySem L2
inductive Wsh where
  | found | same (a b : Nat) | order (a b : Nat) | near (a b : Nat) (w : Int)
noncomputable def Wsh.d : Wsh → D
  | .found => .tup [.str "found"]
  | .same a b => .tup [.str "same", .int a, .int b]
  | .order a b => .tup [.str "order", .int a, .int b]
  | .near a b w => .tup [.str "near", .int a, .int b, .int w]
noncomputable def Wsh.OK (row : List Kd) : Wsh → Prop
  | .found => True
  | .same a b => HourI row a ∧ HourI row b
  | .order a b => HourI row a ∧ HourI row b
  | .near a b w => HourI row a ∧ HourI row b ∧ 0 ≤ w ∧ w ≤ 1000000
noncomputable def brk (w : Wsh) (c : Case) : Bool := match w, c.2.2 with
  | .found, r => r.isSome
  | _, some _ => false
  | .same a b, none => !(getV c.2.1 b - getV c.2.1 a == 0)
  | .order a b, none => decide (getV c.2.1 b - getV c.2.1 a < 0)
  | .near a b w, none => decide (w < if getV c.2.1 b - getV c.2.1 a < 0 then -(getV c.2.1 b - getV c.2.1 a) else getV c.2.1 b - getV c.2.1 a)
noncomputable def Wsh.In (c : Case) : Wsh → Prop
  | .found => True
  | .same a b => c.2.2 = none → a < c.2.1.length ∧ b < c.2.1.length
  | .order a b => c.2.2 = none → a < c.2.1.length ∧ b < c.2.1.length
  | .near a b _ => c.2.2 = none → a < c.2.1.length ∧ b < c.2.1.length
section
variable {S : Sto} {zs : Zs} {ts : List Stp} {vs : List Int} {lk : List Lk} {n i a b : Nat} {row : List Kd} {k : Kd} {w : Wsh} {c : Case}
theorem atI4 {a b c d : D} : atI [a, b, c, d] 3 = some d := rfl
theorem cutW1 {x : D} : cutD [x] (some 1) (some 3) = [] := rfl
theorem cutW3 {x a b : D} : cutD [x, a, b] (some 1) (some 3) = [a, b] := rfl
theorem cutW4 {x a b w : D} : cutD [x, a, b, w] (some 1) (some 3) = [a, b] := rfl
theorem wish_fits_does {m : Nat} {Q : D → Sto → Prop} (ok : ProgFrom m [.mom] ts) (hl : ts.length ≤ 60) (h : w.OK (kindsFrom [.mom] ts)) (q : ∀ S', Grow S S' → Q (.bl true) S') : (m_wish_fits [progD ts, w.d] S).Does Q := by
  refine does_def rfl ?_
  have kn : ∀ {M : D → Sto → Prop}, (∀ S', Grow S S' → S'[S.length]? = some (.lst ((kindsFrom [.mom] ts).map Kd.d)) → M (.cell S.length) S') → (m_kinds_of [progD ts] S).Does M := fun q => kinds_of_does ok hl (q _ ⟨_, rfl⟩ (by simp))
  cases w with
  | found =>
    simp (decide := true) [Wsh.d, isTn, tbLook]
    refine kn fun S' g c => ?_
    simp [wipeD, cutW1, gAll, lstOf, blsOf]
    exact q S' g
  | same a b =>
    simp (decide := true) [Wsh.d, isTn, tbLook]
    refine kn fun S' g c => ?_
    simp [wipeD, cutW3, is_hour_ok c h.1, is_hour_ok c h.2, gAll, lstOf, blsOf]
    exact q S' g
  | order a b =>
    simp (decide := true) [Wsh.d, isTn, tbLook]
    refine kn fun S' g c => ?_
    simp [wipeD, cutW3, is_hour_ok c h.1, is_hour_ok c h.2, gAll, lstOf, blsOf]
    exact q S' g
  | near a b w =>
    simp (decide := true) [Wsh.d, isTn, tbLook]
    refine kn fun S' g c => ?_
    simp [wipeD, cutW4, is_hour_ok c h.1, is_hour_ok c h.2.1, gAll, lstOf, blsOf, atI4, h.2.2.1, h.2.2.2]
    exact q S' g
end
end Dm
set_option maxHeartbeats 1000000
namespace Dm
open PySem L2
section
variable {S : Sto} {zs : Zs} {ts : List Stp} {p n m a b : Nat} {row : List Kd}
theorem tells_ok {x : Bool} : m_law_tells [.bl x, .bl x] S = .ok (.bl true) S := by
  refine pure_of fun Q q => ?_
  refine does_def rfl ?_
  cases x <;> (simp [isTn]; exact q)
end
end Dm
set_option maxHeartbeats 1000000
namespace Dm
open PySem L2
end Dm
set_option maxHeartbeats 1000000
namespace Dm
open PySem L2
end Dm
set_option maxHeartbeats 1000000
namespace Dm
open PySem L2
structure Wor (zs : Zs) (A B : Nat → Tb) : Prop where
  a : ∀ p, p < zs.length → TabOK (getZ zs p).1 (getZ zs p).2 (A p).1 (A p).2
  b : ∀ p, p < zs.length → TabOK (getZ zs p).1 (getZ zs p).2 (B p).1 (B p).2
noncomputable def LH (A B : Nat → Tb) (lk : List Lk) : Prop := ∀ x, x ∈ lk → ∃ p : Nat, x.1 = (p : Int) ∧ ((x.2.1 = 0 ∧ (A p).of x.2.2.1 = x.2.2.2) ∨ (x.2.1 = 1 ∧ (B p).of x.2.2.1 = x.2.2.2))
section
variable {zs : Zs} {ts : List Stp} {A B : Nat → Tb} {lk b : List Lk} {vs : List Int} {p k : Nat} {m o : Int} {now : Nat → Option Int} {t : Stp} {row : List Kd} {c : Case} {ms : List Int}
theorem LH.less {add : List Lk} (h : LH A B (lk ++ add)) : LH A B lk := fun x hx => h x (List.mem_append_left _ hx)
end
end Dm
set_option maxHeartbeats 1000000
namespace Dm
open PySem L2
end Dm
namespace Dm
open PySem L2
end Dm
set_option maxHeartbeats 1000000
namespace Dm
open PySem L2
section
variable {S : Sto} {zs : Zs} {m o : Int} {lk b lk0 : List Lk} {p k L w : Nat} {ts t1 t2 : List Stp} {vs : List Int} {ms : List Int} {c : Case} {now : Nat → Option Int}
noncomputable def lastV (vs : List Int) : Int := vs.getLastD 0
end
end Dm
set_option maxHeartbeats 1000000
namespace Dm
open PySem L2
end Dm
set_option maxHeartbeats 1000000
namespace Dm
open PySem L2
noncomputable def rowsF (os : List Int) (s : Int) : Nat → List (List Int × Int)
  | 0 => os.map fun o => ([o], 0 - s)
  | n + 1 => (rowsF os s n).flatMap fun x => (x.1 ++ [lastV x.1], x.2) :: (if s ≤ ((n + 1 : Nat) : Int) - x.2 then (os.filter fun o => !(o == lastV x.1)).map fun o => (x.1 ++ [o], ((n + 1 : Nat) : Int)) else [])
end Dm
set_option maxHeartbeats 1000000
namespace Dm
open PySem L2
section
variable {S : Sto} {os : List Int} {s low : Int} {n k : Nat} {T : Tb}
noncomputable def rwD (x : List Int × Int) : D := .tup [.lst (x.1.map .int), .int x.2]
noncomputable def RwAt (S : Sto) (os : List Int) (s : Int) (k : Nat) (d : D) : Prop := d = .lst ((rowsF os s k).map rwD) ∨ ∃ c, d = .cell c ∧ S[c]? = some (.lst ((rowsF os s k).map rwD))
theorem RwAt.seq {d : D} (h : RwAt S os s k d) : seqOf S d = some ((rowsF os s k).map rwD) := by
  rcases h with rfl | ⟨c, rfl, h⟩
  · rfl
  · exact seqOf_cell h
end
end Dm
namespace Dm
open PySem L2
section
variable {S : Sto} {zs : Zs} {ts : List Stp} {p n : Nat}
noncomputable def f4 (t : Stp) (x : Int × Int) : Int × Int := match t with
  | .add _ m => (x.1 + m, x.2 + m)
  | _ => x
noncomputable def f5 (t : Stp) (x : Int × Int) : Int × Int := match t with
  | .offset _ _ => (0, 0)
  | _ => x
noncomputable def f6 (top : Int) (t : Stp) (x : Int × Int) : Int × Int := match t with
  | .find _ _ _ _ => (x.1 - top, x.2)
  | .less _ _ => (x.1 - top, x.2)
  | _ => x
noncomputable def f7 (top : Int) (t : Stp) (x : Int × Int) : Int × Int := match t with
  | .read _ _ => (x.1, x.2 + top)
  | .plus _ _ => (x.1, x.2 + top)
  | .offset _ _ => (x.1, x.2 + top)
  | _ => x
end
end Dm
namespace Dm
open PySem L2
end Dm
namespace Dm
open PySem L2
end Dm
namespace Dm
open PySem L2
section
variable {S : Sto} {zs : Zs} {n k : Nat}
abbrev RwP := List (List Int) × List (List Int)
noncomputable def rwL (r : List Int) : D := .lst (r.map .int)
noncomputable def prR (x : RwP) : D := .tup [.lst (x.1.map rwL), .lst (x.2.map rwL)]
noncomputable def PrAt (S : Sto) (ps : List RwP) (d : D) : Prop := d = .lst (ps.map prR) ∨ ∃ c, d = .cell c ∧ S[c]? = some (.lst (ps.map prR))
theorem PrAt.seq {ps : List RwP} {d : D} (h : PrAt S ps d) : seqOf S d = some (ps.map prR) := by
  rcases h with rfl | ⟨c, rfl, h⟩
  · rfl
  · exact seqOf_cell h
theorem PrAt.len {ps : List RwP} {d : D} (h : PrAt S ps d) : gLen S [d] = some (.int (ps.length : Nat)) := by
  rcases h with rfl | ⟨c, rfl, h⟩
  · simp
  · rw [gLen_cell h, List.length_map]
end
end Dm
namespace Dm
open PySem L2
end Dm
namespace Dm
open PySem L2
end Dm
namespace Dm
open PySem L2
end Dm
namespace Dm
open PySem L2
end Dm
set_option maxHeartbeats 1000000
namespace Dm
open PySem L2
section
variable {S : Sto} {zs : Zs} {ts : List Stp} {p n k : Nat}
theorem ix_four {a b c d : D} {r : Int} (h0 : 0 ≤ r) (h1 : r < 4) : ∃ x, gIx S (.lst [a, b, c, d]) (.int r) = some x ∧ (x = a ∨ x = b ∨ x = c ∨ x = d) := by
  have : r = 0 ∨ r = 1 ∨ r = 2 ∨ r = 3 := by omega
  rcases this with rfl | rfl | rfl | rfl <;> refine ⟨_, rfl, ?_⟩ <;> simp
end
end Dm
set_option maxHeartbeats 1000000
namespace Dm
open PySem L2
end Dm
set_option maxHeartbeats 1000000
namespace Dm
open PySem L2
section
variable {S : Sto} {zs : Zs} {ts : List Stp} {p n k a b : Nat} {w : Wsh}
theorem ix_seven {a b c d e f g : D} {r : Int} (h0 : 0 ≤ r) (h1 : r < 7) : ∃ x, gIx S (.lst [a, b, c, d, e, f, g]) (.int r) = some x ∧ (x = a ∨ x = b ∨ x = c ∨ x = d ∨ x = e ∨ x = f ∨ x = g) := by
  have : r = 0 ∨ r = 1 ∨ r = 2 ∨ r = 3 ∨ r = 4 ∨ r = 5 ∨ r = 6 := by omega
  rcases this with rfl | rfl | rfl | rfl | rfl | rfl | rfl <;> refine ⟨_, rfl, ?_⟩ <;> simp
theorem draw_want_does {Q : D → Sto → Prop} (hp : Bag p (n + 6) S) (hl : ts.length ≤ 60) (q : ∀ (w : Wsh) S', Bag p n S' → GoB p S S' → w.OK (kindsFrom [.mom] ts) → Q w.d S') : (m_law_draw_want [.cell p, .lst (hoursD ts)] S).Does Q := by
  obtain ⟨l1, l2⟩ := hoursD_len (ts := ts) hl
  refine does_def rfl ?_
  refine seq_cut (fun ρ S' => ∃ x : Str, (x = "found" ∨ x = "same" ∨ x = "order" ∨ x = "near") ∧ ρ = [some (.cell p), some (.lst (hoursD ts)), some (.str x), none, none] ∧ Bag p (n + 5) S' ∧ GoB p S S') (fun M hM => ?_) ?_
  · simp
    refine pick2_does (n := n + 5) hp (by decide) (by decide) fun r S1 b1 g1 r0 r1 => ?_
    obtain ⟨x, e, hx⟩ := ix_four (S := S1) (a := .str "found") (b := .str "same") (c := .str "order") (d := .str "near") r0 r1
    simp [e]
    rcases hx with rfl | rfl | rfl | rfl
    · exact hM _ _ ⟨_, .inl rfl, rfl, b1, g1⟩
    · exact hM _ _ ⟨_, .inr (.inl rfl), rfl, b1, g1⟩
    · exact hM _ _ ⟨_, .inr (.inr (.inl rfl)), rfl, b1, g1⟩
    · exact hM _ _ ⟨_, .inr (.inr (.inr rfl)), rfl, b1, g1⟩
  rintro ρ S1 ⟨x, hx, rfl, b1, g1⟩
  refine seq_cut (fun ρ S' => S1 = S' ∧ x ≠ "found" ∧ ρ = [some (.cell p), some (.lst (hoursD ts)), some (.str x), none, none]) (fun M hM => ?_) ?_
  · rcases hx with rfl | rfl | rfl | rfl
    · have := q .found S1 (b1.mono (by omega)) g1 trivial
      simpa (decide := true) [Wsh.d] using this
    · have := hM _ _ ⟨rfl, by decide, rfl⟩
      simpa (decide := true) using this
    · have := hM _ _ ⟨rfl, by decide, rfl⟩
      simpa (decide := true) using this
    · have := hM _ _ ⟨rfl, by decide, rfl⟩
      simpa (decide := true) using this
  rintro ρ _ ⟨rfl, hne, rfl⟩
  refine seq_cut (fun ρ S' => ∃ i j : Nat, HourI (kindsFrom [.mom] ts) i ∧ HourI (kindsFrom [.mom] ts) j ∧ ρ = [some (.cell p), some (.lst (hoursD ts)), some (.str x), some (.tup [.str x, .int (i : Nat), .int (j : Nat)]), none] ∧ Bag p (n + 3) S' ∧ GoB p S S') (fun M hM => ?_) ?_
  · simp
    refine pick_hour (n := n + 4) b1 hl fun v i S2 b2 g2 hi ai => ?_
    simp [ai]
    refine pick_hour (n := n + 3) b2 hl fun v' j S3 b3 g3 hj aj => ?_
    simp [aj]
    exact hM _ _ ⟨i, j, hi, hj, rfl, b3, g1.trans (g2.trans g3)⟩
  rintro ρ S2 ⟨i, j, hi, hj, rfl, b2, g2⟩
  refine seq_cut (fun ρ S' => S2 = S' ∧ x = "near" ∧ ρ = [some (.cell p), some (.lst (hoursD ts)), some (.str x), some (.tup [.str x, .int (i : Nat), .int (j : Nat)]), none]) (fun M hM => ?_) ?_
  · rcases hx with rfl | rfl | rfl | rfl
    · exact absurd rfl hne
    · have := q (.same i j) S2 (b2.mono (by omega)) g2 ⟨hi, hj⟩
      simpa (decide := true) [Wsh.d] using this
    · have := q (.order i j) S2 (b2.mono (by omega)) g2 ⟨hi, hj⟩
      simpa (decide := true) [Wsh.d] using this
    · have := hM _ _ ⟨rfl, rfl, rfl⟩
      simpa (decide := true) using this
  rintro ρ _ ⟨rfl, rfl, rfl⟩
  simp
  refine pick2_does (n := n + 2) b2 (by decide) (by decide) fun u S3 b3 g3 u0 u1 => ?_
  refine pick2_does (n := n + 1) b3 (by decide) (by decide) fun v S4 b4 g4 v0 v1 => ?_
  refine pick2_does (n := n) b4 (by decide) (by decide) fun r S5 b5 g5 r0 r1 => ?_
  have fin : ∀ w : Int, 0 ≤ w → w ≤ 1000000 → Q (.tup [.str "near", .int (i : Nat), .int (j : Nat), .int w]) S5 := fun w h0 h1 => q (.near i j w) S5 b5 (g2.trans (g3.trans (g4.trans g5))) ⟨hi, hj, h0, h1⟩
  obtain ⟨x, e, hx⟩ := ix_seven (S := S5) (a := .int 0) (b := .int 1) (c := .int 1000000) (d := .int 60) (e := .int u) (f := .int v) (g := .int 1801) r0 r1
  simp [e]
  rcases hx with rfl | rfl | rfl | rfl | rfl | rfl | rfl
  · exact fin 0 (by omega) (by omega)
  · exact fin 1 (by omega) (by omega)
  · exact fin 1000000 (by omega) (by omega)
  · exact fin 60 (by omega) (by omega)
  · exact fin u (by omega) (by omega)
  · exact fin v (by omega) (by omega)
  · exact fin 1801 (by omega) (by omega)
end
end Dm
set_option maxHeartbeats 1000000
namespace Dm
open PySem L2
end Dm
set_option maxHeartbeats 1000000
namespace Dm
open PySem L2
end Dm
namespace Dm
open PySem L2
end Dm
set_option maxHeartbeats 1000000
namespace Dm
open PySem L2
end Dm
set_option maxHeartbeats 1000000
namespace Dm
open PySem L2
noncomputable def kb (b : Int) (k : Kd) : Int := if k = .mom then 0 else b
end Dm
set_option maxHeartbeats 1000000
namespace Dm
open PySem L2
noncomputable def FinS (S : Sto) (d : D) : Fin → Prop
  | .done vs => vs.length ≤ 9 ∧ ∃ n, d = .tup [.str "values", .cell n] ∧ S[n]? = some (.lst (vs.map .int))
  | .refused _ k => d = .tup [.str "refused", .int k]
  | .unsuited => d = .tup [.str "unsuited", .bl true]
section
variable {S : Sto} {zs : Zs} {tb later : List Tb} {ts : List Stp} {p : Nat} {os : List Int} {s : Int}
theorem FinS.eqv {d e : D} {f : Fin} (h : FinS S d f) (h' : FinS S e f) : Eqv S 29 d e := by
  cases f with
  | done vs =>
    obtain ⟨hl, n, rfl, h⟩ := h
    obtain ⟨_, n', rfl, h'⟩ := h'
    refine .tup rfl (by simp) ?_
    intro i d e hd he
    match i with
    | 0 => cases hd; cases he; exact .str
    | 1 =>
      cases hd; cases he
      refine .lst (ds := vs.map .int) (es := vs.map .int) ?_ ?_ rfl (by simp; omega) ?_
      · simp [lstOf, h]
      · simp [lstOf, h']
      · intro j d e hd he
        rw [hd] at he
        cases he
        rw [List.getElem?_map] at hd
        cases e0 : vs[j]? with
        | none => rw [e0] at hd; cases hd
        | some v => rw [e0] at hd; cases hd; exact .int
    | i + 2 => cases hd
  | refused vs k =>
    subst h h'
    refine .tup rfl (by simp) ?_
    intro i d e hd he
    match i with
    | 0 => cases hd; cases he; exact .str
    | 1 => cases hd; cases he; exact .int
    | i + 2 => cases hd
  | unsuited =>
    subst h h'
    refine .tup rfl (by simp) ?_
    intro i d e hd he
    match i with
    | 0 => cases hd; cases he; exact .str
    | 1 => cases hd; cases he; exact .bl
    | i + 2 => cases hd
end
end Dm
set_option maxHeartbeats 1000000
namespace Dm
open PySem L2
end Dm
set_option maxHeartbeats 1000000
namespace Dm
open PySem L2
end Dm
set_option maxHeartbeats 1000000
namespace Dm
open PySem L2
end Dm
set_option maxHeartbeats 1000000
namespace Dm
open PySem L2
end Dm
set_option maxHeartbeats 1000000
namespace Dm
open PySem L2 PySem.Builtin PySem.Builtin.Str PySem.StrLaws
end Dm
set_option maxHeartbeats 1000000
namespace Dm
open PySem L2 PySem.Builtin PySem.Builtin.Str PySem.StrLaws
open PySem.W.KIN (signs_num num_reads val_back)
open PySem.NumText
end Dm
namespace Dm
open PySem L2
inductive Pt where
  | knd (k : Kd) | pl | mn | pt | fo | ga
noncomputable def Pt.s : Pt → Str
  | .knd k => k.s
  | .pl => "place"
  | .mn => "minutes"
  | .pt => "point"
  | .fo => "fold"
  | .ga => "gap"
noncomputable def foB (s : Str) : Bool := ("early" : Str) == s || (("late" : Str) == s || ("refuse" : Str) == s)
noncomputable def gaB (s : Str) : Bool := ("ahead" : Str) == s || (("behind" : Str) == s || ("refuse" : Str) == s)
noncomputable def ptB (nz : Nat) (row : List Kd) : Pt → D → Bool
  | .knd k, .int i => decide (0 ≤ i) && decide (row[i.toNat]? = some k)
  | .pl, .int i => decide (0 ≤ i) && decide (i < nz)
  | .mn, .int i => decide (-100000 ≤ i) && decide (i ≤ 100000)
  | .pt, .int i => decide (0 ≤ i) && (decide (row[i.toNat]? = some .mom) || decide (row[i.toNat]? = some .rdg))
  | .fo, .str s => foB s
  | .ga, .str s => gaB s
  | _, _ => false
noncomputable def stepPs (w : Str) : Option (List Pt) :=
  if ("read" : Str) = w then some [.knd .mom, .pl] else if ("find" : Str) = w then some [.knd .rdg, .pl, .fo, .ga] else if ("offset" : Str) = w then some [.knd .mom, .pl] else if ("edition" : Str) = w then some [.knd .mom, .pl]
  else if ("plus" : Str) = w then some [.knd .mom, .knd .spn] else if ("less" : Str) = w then some [.knd .rdg, .knd .spn] else if ("add" : Str) = w then some [.pt, .mn] else none
abbrev tabP : List (Str × D) := [("read", (.tup [(.str "moment"), (.str "place")])), ("find", (.tup [(.str "reading"), (.str "place"), (.str "fold"), (.str "gap")])), ("offset", (.tup [(.str "moment"), (.str "place")])), ("edition", (.tup [(.str "moment"), (.str "place")])), ("plus", (.tup [(.str "moment"), (.str "span")])), ("less", (.tup [(.str "reading"), (.str "span")])), ("add", (.tup [(.str "point"), (.str "minutes")]))]
noncomputable def ptsD (ps : List Pt) : D := .tup (ps.map fun p => .str p.s)
theorem tab_look (w : Str) : tbLook tabP w = (stepPs w).map ptsD := by
  unfold stepPs tabP
  simp only [tbLook]
  repeat' (first | rfl | split)
noncomputable def stepB (nz : Nat) (row : List Kd) : D → Bool
  | .tup (.str w :: r) => match stepPs w with
    | some ps => decide (r.length = ps.length) && (ps.zip r).all fun p => ptB nz row p.1 p.2
    | none => false
  | _ => false
section
variable {S : Sto} {zs : List D} {n m nz : Nat} {row : List Kd} {d v : D}
theorem row_look {i : Int} (hn : S[n]? = some (.lst (row.map Kd.d))) (h0 : 0 ≤ i) (h1 : i < row.length) : ∃ k, row[i.toNat]? = some k ∧ gIx S (.cell n) (.int i) = some (.str k.s) := by
  have h : i.toNat < row.length := by omega
  refine ⟨row[i.toNat], List.getElem?_eq_getElem h, ?_⟩
  rw [gIx_cell hn, atI_of h0 (by rw [List.length_map]; exact h1)]
  simp [h, Kd.d]
theorem part_odd {p : Pt} (hn : S[n]? = some (.lst (row.map Kd.d))) (hv : OddD v) : m_is_part [.tup zs, .cell n, .str p.s, v] S = .ok (.bl (ptB zs.length row p v)) S := by
  refine pure_of fun Q q => ?_
  have hl : gLen S [.cell n] = some (.int row.length) := by rw [gLen_cell hn, List.length_map]
  refine does_def rfl ?_
  cases p with
  | fo =>
    simp (decide := true) [Pt.s]
    cases hv with
    | str s =>
      simp (decide := true) [isTn, gIn, eqF]
      exact q
    | _ => simp [isTn]; exact q
  | ga =>
    simp (decide := true) [Pt.s]
    cases hv with
    | str s =>
      simp (decide := true) [isTn, gIn, eqF]
      exact q
    | _ => simp [isTn]; exact q
  | pl =>
    simp (decide := true) [Pt.s, is_integer_odd hv]
    cases hv with
    | int i =>
      have e3 : ptB zs.length row .pl (.int i) = (decide (0 ≤ i) && decide (i < zs.length)) := rfl
      rw [e3] at q
      simp [isI]
      by_cases h0 : 0 ≤ i
      · simp [h0] at q ⊢
        exact q
      · simp [h0] at q ⊢
        exact q
    | _ => simp [isI]; exact q
  | mn =>
    simp (decide := true) [Pt.s, is_integer_odd hv]
    cases hv with
    | int i =>
      have e3 : ptB zs.length row .mn (.int i) = (decide (-100000 ≤ i) && decide (i ≤ 100000)) := rfl
      rw [e3] at q
      simp [isI]
      by_cases h0 : -100000 ≤ i
      · simp [h0] at q ⊢
        exact q
      · simp [h0] at q ⊢
        exact q
    | _ => simp [isI]; exact q
  | pt =>
    simp (decide := true) [Pt.s, is_integer_odd hv]
    cases hv with
    | int i =>
      simp [isI, hl]
      by_cases h0 : 0 ≤ i
      · by_cases h1 : i < row.length
        · obtain ⟨k, e1, e2⟩ := row_look hn h0 h1
          have e3 : ptB zs.length row .pt (.int i) = (decide (0 ≤ i) && (decide (row[i.toNat]? = some .mom) || decide (row[i.toNat]? = some .rdg))) := rfl
          rw [e3, e1, decide_eq_true h0] at q
          simp [h0, h1, e2]
          cases k <;> (simp (decide := true) [Kd.s]; exact q)
        · have e1 : row[i.toNat]? = none := List.getElem?_eq_none (by omega)
          have e3 : ptB zs.length row .pt (.int i) = (decide (0 ≤ i) && (decide (row[i.toNat]? = some .mom) || decide (row[i.toNat]? = some .rdg))) := rfl
          rw [e3, e1, decide_eq_true h0] at q
          simp [h0, h1]
          exact q
      · have e3 : ptB zs.length row .pt (.int i) = (decide (0 ≤ i) && (decide (row[i.toNat]? = some .mom) || decide (row[i.toNat]? = some .rdg))) := rfl
        rw [e3, decide_eq_false h0] at q
        simp [h0]
        exact q
    | _ => simp [isI]; exact q
  | knd k0 =>
    have hs : ¬ (k0.s = "fold") ∧ ¬ (k0.s = "gap") ∧ ¬ (k0.s = "place") ∧ ¬ (k0.s = "minutes") ∧ ¬ (k0.s = "point") := by cases k0 <;> decide
    obtain ⟨a1, a2, a3, a4, a5⟩ := hs
    simp [Pt.s, is_integer_odd hv, a1, a2, a3, a4, a5]
    cases hv with
    | int i =>
      simp [isI, hl]
      have e3 : ptB zs.length row (.knd k0) (.int i) = (decide (0 ≤ i) && decide (row[i.toNat]? = some k0)) := rfl
      rw [e3] at q
      by_cases h0 : 0 ≤ i
      · by_cases h1 : i < row.length
        · obtain ⟨k, e1, e2⟩ := row_look hn h0 h1
          rw [e1, decide_eq_true h0] at q
          simp [h0, h1, e2]
          cases k <;> cases k0 <;> (simp (decide := true) [Kd.s]; exact q)
        · have e1 : row[i.toNat]? = none := List.getElem?_eq_none (by omega)
          rw [e1, decide_eq_true h0] at q
          simp [h0, h1]
          exact q
      · rw [decide_eq_false h0] at q
        simp [h0]
        exact q
    | _ => simp [isI]; exact q
theorem gAll_blq {α : Type} (p : α → Bool) (l : List α) : gAll S [.lst (l.map fun x => D.bl (p x))] = some (.bl (l.all p)) := gAll_blp p l
theorem parts_odd {x d3 : D} (hn : S[n]? = some (.lst (row.map Kd.d))) {full : List D} : ∀ {ps : List Pt} {pre r : List D} {Q : List D → Sto → Prop}, full = pre ++ r → r.length = ps.length → (∀ y, y ∈ r → OddD y) → Q ((ps.zip r).map fun p => D.bl (ptB zs.length row p.1 p.2)) S →
    LcQ (tgU 2 (tgCons (tgN 4) (tgCons (tgN 5) tgNil))) mYes (mCall m_is_part (mCons (mVar 0) (mCons (mVar 1) (mCons (mVar 5) (mCons (mOp gIx (mVar 2) (mOp gAdd (mVar 4) (mK (.int 1)))) mNil))))) [some (.tup zs), some (.cell n), some (.tup (x :: full)), some d3, none, none] (enumF pre.length (ps.map fun p => D.str p.s)) S Q
  | [], pre, [], Q, e, hl, hd, q => by
    show LcQ _ _ _ _ [] S Q
    rw [lcQ_nil]
    exact q
  | [], pre, _ :: _, Q, e, hl, hd, q => by cases hl
  | _ :: _, pre, [], Q, e, hl, hd, q => by cases hl
  | p :: ps, pre, y :: r, Q, e, hl, hd, q => by
    rw [List.map_cons, enumF_cons, lcQ_cons]
    have ea : atI (x :: full) ((pre.length : Int) + 1) = some y := by
      rw [e, atI_of (by omega) (by simp; omega)]
      have : ((pre.length : Int) + 1).toNat = pre.length + 1 := by omega
      rw [this]
      simp
    have hy := part_odd (p := p) (zs := zs) hn (hd y (by simp))
    simp [tgU, ea, hy]
    have ih := parts_odd (x := x) (d3 := d3) hn (full := full) (ps := ps) (pre := pre ++ [y]) (r := r) (Q := fun ys S3 => Q (.bl (ptB zs.length row p y) :: ys) S3) (by rw [e]; simp) (by simpa using hl) (fun z hz => hd z (List.mem_cons_of_mem _ hz)) q
    rw [List.length_append] at ih
    exact ih
theorem stepB_nstr {x : D} {r : List D} (h : ∀ w, x ≠ .str w) : stepB nz row (.tup (x :: r)) = false := by
  cases x with
  | str w => exact (h w rfl).elim
  | _ => rfl
theorem stepB_ntup {d : D} (h : ∀ ds, d ≠ .tup ds) : stepB nz row d = false := by
  cases d with
  | tup ds => exact (h ds rfl).elim
  | _ => rfl
theorem is_step_odd (hn : S[n]? = some (.lst (row.map Kd.d))) (hd : OddD d) : m_is_step [.tup zs, .cell n, d] S = .ok (.bl (stepB zs.length row d)) S := by
  refine pure_of fun Q q => ?_
  refine does_def rfl ?_
  rcases odd_tup hd S with ⟨ds, rfl, hl, hd⟩ | ⟨ty, ht, hn', ne⟩
  · cases ds with
    | nil => simp [isTn]; exact q
    | cons x r =>
      have hx := hd x (by simp)
      have hr : ∀ y, y ∈ r → OddD y := fun y hy => hd y (List.mem_cons_of_mem _ hy)
      have hne : ¬ ((r.length : Int) + 1 = 0) := by omega
      rcases odd_str hx S with ⟨w, rfl⟩ | ⟨ty, ht, hn', ne⟩
      · have eB : stepB zs.length row (.tup (.str w :: r)) = (match stepPs w with
          | some ps => decide (r.length = ps.length) && (ps.zip r).all fun p => ptB zs.length row p.1 p.2
          | none => false) := rfl
        rw [eB] at q
        have tl := tab_look w
        simp only [tabP] at tl
        cases e : stepPs w with
        | none =>
          rw [e] at q tl
          simp only [Option.map_none] at tl
          simp [isTn, hne, tl]
          exact q
        | some ps =>
          rw [e] at q tl
          simp only [Option.map_some] at tl
          simp [isTn, hne, tl, ptsD]
          by_cases c : r.length = ps.length
          · simp only [c, decide_true, Bool.true_and] at q
            rw [if_pos (by omega)]
            have := parts_odd (x := .str w) (d3 := .tup (ps.map fun p => .str p.s)) hn (full := r) (ps := ps) (pre := []) (r := r) (Q := fun xs S1 => OptQ (gAll S1 [D.lst xs]) fun z => Q z S1) rfl c hr (by rw [gAll_blq]; exact q)
            exact this
          · simp only [c, decide_false, Bool.false_and] at q
            rw [if_neg (by omega)]
            exact q
      · rw [stepB_nstr ne] at q
        simp [show isTn .tup .tup = true from rfl, hne, ht, hn']
        exact q
  · rw [stepB_ntup ne] at q
    simp [ht, hn']
    exact q
end
end Dm
namespace Dm
open PySem L2
end Dm
set_option maxHeartbeats 1000000
namespace Dm
open PySem L2 PySem.Builtin PySem.Builtin.Str PySem.StrLaws
open PySem.W.KIN (signs_num num_reads val_back)
open PySem.NumText
end Dm
namespace Dm
open PySem L2
section
variable {S : Sto} {nz n : Nat} {row : List Kd} {d : D}
theorem stp_odd (t : Stp) : OddD t.d := by
  cases t <;> exact .tup (by simp) (by repeat' (first | exact List.forall_mem_nil _ | refine List.forall_mem_cons.mpr ⟨?_, ?_⟩ | exact OddD.str _ | exact OddD.int _))
theorem stepB_of {t : Stp} (h : t.OK nz row) : stepB nz row t.d = true := by
  have hn : ([Cell.lst (row.map Kd.d)] : Sto)[0]? = some (.lst (row.map Kd.d)) := rfl
  have e1 := is_step_ok (zs := List.replicate nz D.non) hn (t := t) (by rw [List.length_replicate]; exact h)
  have e2 := is_step_odd (zs := List.replicate nz D.non) hn (stp_odd t)
  rw [e1, List.length_replicate] at e2
  injection e2 with e2 _
  injection e2 with e2
  exact e2.symm
end
end Dm
namespace Dm
open PySem L2
end Dm
namespace Dm
open PySem L2
end Dm
namespace Dm
open PySem L2
end Dm
namespace Dm
open PySem L2
end Dm
namespace Dm
open PySem L2
noncomputable def PlanOf (nz : Nat) (d : D) : Prop := ∃ ts, d = progD ts ∧ ProgOK nz ts
noncomputable def planB (nz : Nat) (d : D) : Bool := @decide (PlanOf nz d) (Classical.propDecidable _)
theorem planB_iff {nz : Nat} {d : D} : planB nz d = true ↔ PlanOf nz d := by unfold planB; simp
theorem planB_no {nz : Nat} {d : D} (h : ¬ PlanOf nz d) : planB nz d = false := by
  cases e : planB nz d with
  | false => rfl
  | true => exact absurd (planB_iff.mp e) h
theorem stp_inj {t u : Stp} (h : t.d = u.d) : t = u := by
  cases t <;> cases u <;> simp (decide := true) [Stp.d, Int.ofNat_inj] at h <;> simp [h]
theorem stps_inj : ∀ {ts us : List Stp}, ts.map Stp.d = us.map Stp.d → ts = us
  | [], [], _ => rfl
  | [], _ :: _, h => by cases h
  | _ :: _, [], h => by cases h
  | t :: ts, u :: us, h => by
    injection h with h1 h2
    rw [stp_inj h1, stps_inj h2]
theorem progFrom_mid2 {nz : Nat} : ∀ {us ts : List Stp} {t : Stp} {row : List Kd}, ProgFrom nz row (us ++ t :: ts) → t.OK nz (kindsFrom row us)
  | [], _, _, _, h => h.1
  | u :: us, _, _, _, h => progFrom_mid2 (us := us) h.2
theorem plan_mid {nz : Nat} {us : List Stp} {d : D} {r : List D} (h : PlanOf nz (.tup (us.map Stp.d ++ d :: r))) : stepB nz (kindsFrom [.mom] us) d = true := by
  obtain ⟨ts, e, h⟩ := h
  injection e with e
  have e2 := List.map_eq_append_iff.mp e.symm
  obtain ⟨a, b, rfl, ea, eb⟩ := e2
  have := stps_inj ea
  subst this
  cases b with
  | nil => cases eb
  | cons t b =>
    injection eb with eb1 eb2
    subst eb1
    exact stepB_of (progFrom_mid2 h.steps)
end Dm
set_option maxHeartbeats 1000000
namespace Dm
open PySem L2
inductive Sl where
  | p (q : Pt) | most
noncomputable def Sl.s : Sl → Str
  | .p q => q.s
  | .most => "most"
section
variable {S : Sto} {zs : List D} {n a s nz : Nat} {row : List Kd} {w : Str} {p : Sl} {ts : List Stp}
noncomputable def slD (sl : List Sl) : D := .tup (sl.map fun p => .str p.s)
end
end Dm
set_option maxHeartbeats 1000000
namespace Dm
open PySem L2
end Dm
set_option maxHeartbeats 1000000
namespace Dm
open PySem L2 PySem.Builtin PySem.Builtin.Str PySem.StrLaws
end Dm
set_option maxHeartbeats 1000000
namespace Dm
open PySem L2 PySem.Builtin PySem.Builtin.Str PySem.StrLaws
noncomputable def Stp.w : Stp → Str
  | .read _ _ => "read"
  | .find _ _ _ _ => "find"
  | .offset _ _ => "offset"
  | .edition _ _ => "edition"
  | .plus _ _ => "plus"
  | .less _ _ => "less"
  | .add _ _ => "add"
end Dm
set_option maxHeartbeats 1000000
namespace Dm
open PySem L2 PySem.Builtin PySem.Builtin.Str PySem.StrLaws
noncomputable def wishPs (w : Str) : Option (List Sl) :=
  if ("found" : Str) = w then some [] else if ("same" : Str) = w then some [.p .pt, .p .pt] else if ("order" : Str) = w then some [.p .pt, .p .pt]
  else if ("near" : Str) = w then some [.p .pt, .p .pt, .most] else none
abbrev tabW : List (Str × D) := [("found", (.tup [])), ("same", (.tup [(.str "point"), (.str "point")])), ("order", (.tup [(.str "point"), (.str "point")])), ("near", (.tup [(.str "point"), (.str "point"), (.str "most")]))]
theorem tabW_look (w : Str) : tbLook tabW w = (wishPs w).map slD := by
  unfold wishPs tabW
  simp only [tbLook]
  repeat' (first | rfl | split)
noncomputable def Wsh.w : Wsh → Str
  | .found => "found"
  | .same _ _ => "same"
  | .order _ _ => "order"
  | .near _ _ _ => "near"
end Dm
namespace Dm
open PySem L2
end Dm
namespace Dm
open PySem L2
end Dm
namespace Dm
open PySem L2
noncomputable def LsOK (d : D) : Prop := ∀ es, d = .lst es → ∃ qs, toPys es = some qs ∧ PyData.canLayAll0 qs = true ∧ PyData.depthAll qs ≤ 3
noncomputable def OdL (d : D) : Prop := OddD d ∧ LsOK d
section
variable {S : Sto} {zs : Zs} {d : D} {ds : List D} {n p : Nat}
theorem OdL.tup {ds : List D} (h : OddD (.tup ds)) : OdL (.tup ds) := ⟨h, fun _ e => nomatch e⟩
end
end Dm
namespace Dm
open PySem L2
end Dm
namespace Dm
open PySem L2
section
variable {nz : Nat} {d : D} {r : List D}
theorem np_at {us : List Stp} (h : stepB nz (kindsFrom [.mom] us) d = false) : planB nz (.tup (us.map Stp.d ++ d :: r)) = false := planB_no fun hp => by
  rw [plan_mid hp] at h
  cases h
theorem np2 (t : Stp) (h : stepB nz [.mom, t.kind [.mom]] d = false) : planB nz (.tup (t.d :: d :: r)) = false := np_at (us := [t]) h
end
end Dm
namespace Dm
open PySem L2
end Dm
namespace Dm
open PySem L2
end Dm
namespace Dm
open PySem L2
end Dm
set_option maxHeartbeats 1000000
namespace Dm
open PySem L2
end Dm
set_option maxHeartbeats 1000000
namespace Dm
open PySem L2
end Dm
namespace Dm
open PySem L2
end Dm
namespace Dm
open PySem L2
end Dm
set_option maxHeartbeats 1000000
namespace Dm
open PySem L2
noncomputable def nF (ts : List Stp) : Nat := (ts.filter Stp.isFind).length
end Dm
set_option maxHeartbeats 1000000
namespace Dm
open PySem L2
end Dm
set_option maxHeartbeats 1000000
namespace Dm
open PySem L2
end Dm
set_option maxHeartbeats 1000000
namespace Dm
open PySem L2
end Dm
set_option maxHeartbeats 1000000
namespace Dm
open PySem L2
end Dm
set_option maxHeartbeats 1000000
namespace Dm
open PySem L2
end Dm
namespace Dm
open PySem L2
section
variable {S : Sto} {zs : Zs} {ts : List Stp} {A B : Nat → Tb} {p n k : Nat} {d : Int} {row : List Kd} {vs : List Int} {t : Stp}
noncomputable def mvW (d : Int) (A : Nat → Tb) : Nat → Tb := fun p => mvT d (A p)
theorem Wor.mv (w : Wor zs A B) : Wor zs (mvW d A) (mvW d B) := by
  have one : ∀ {os : List Int} {s : Int} {T : Tb}, TabOK os s T.1 T.2 → TabOK os s (mvT d T).1 (mvT d T).2 := by
    intro os s T h
    have c := chain_mv (d := d) h.chain
    exact ⟨h.held, c⟩
  exact ⟨fun p hp => one (w.a p hp), fun p hp => one (w.b p hp)⟩
end
end Dm
set_option maxHeartbeats 1000000
namespace Dm
open PySem L2
end Dm
set_option maxHeartbeats 1000000
namespace Dm
open PySem L2
end Dm
set_option maxHeartbeats 1000000
namespace Dm
open PySem L2
section
variable {S : Sto} {zs : Zs} {ts : List Stp} {A B : Nat → Tb} {p n k a b : Nat} {d : Int} {row : List Kd} {vs : List Int} {ta tb : List Tb} {w : Wsh} {lk : List Lk} {r : Option Nat}
theorem kinds_len1 : (kindsFrom [.mom] ts).length = ts.length + 1 := by
  have := kindsFrom_length [.mom] ts
  simp at this
  omega
end
end Dm
set_option maxHeartbeats 1000000
namespace Dm
open PySem L2
end Dm
set_option maxHeartbeats 1000000
namespace Dm
open PySem L2
inductive SubR {α β : Type} (R : α → β → Prop) : List α → List β → Prop
  | nil {l : List β} : SubR R [] l
  | keep {a : α} {b : β} {l : List α} {m : List β} : R a b → SubR R l m → SubR R (a :: l) (b :: m)
  | skip {b : β} {l : List α} {m : List β} : SubR R l m → SubR R l (b :: m)
section
variable {α β γ δ : Type} {R : α → β → Prop} {T : γ → δ → Prop}
theorem SubR.pre {l : List α} {m k : List β} (h : SubR R l m) : SubR R l (k ++ m) := by
  induction k with
  | nil => exact h
  | cons b k ih => exact .skip ih
theorem SubR.same {f : γ → α} {g : γ → β} (h : ∀ x, R (f x) (g x)) : ∀ l : List γ, SubR R (l.map f) (l.map g)
  | [] => .nil
  | x :: l => .keep (h x) (SubR.same h l)
theorem SubR.len {l : List α} {m : List β} (h : SubR R l m) : l.length ≤ m.length := by
  induction h with
  | nil => exact Nat.zero_le _
  | keep _ _ ih => simpa using ih
  | skip _ ih => simp; omega
end
end Dm
set_option maxHeartbeats 1000000
namespace Dm
open PySem L2
end Dm
set_option maxHeartbeats 1000000
namespace Dm
open PySem L2
end Dm
set_option maxHeartbeats 1000000
namespace Dm
open PySem L2
end Dm
set_option maxHeartbeats 1000000
namespace Dm
open PySem L2
section
variable {zs zs' : Zs} {ts : List Stp} {A B : Nat → Tb} {p n k j : Nat} {c d : Case} {lk b : List Lk} {ms : List Int} {now : Nat → Option Int} {vs : List Int} {t : Stp} {x : Lk} {row : List Kd}
noncomputable def Confl (a b : List Lk) : Prop := ∃ x y, x ∈ a ∧ y ∈ b ∧ x.1 = y.1 ∧ x.2.1 = y.2.1 ∧ x.2.2.1 = y.2.2.1 ∧ x.2.2.2 ≠ y.2.2.2
theorem Confl.more {a b a' b' : List Lk} (h : Confl a b) (ha : ∀ x, x ∈ a → x ∈ a') (hb : ∀ x, x ∈ b → x ∈ b') : Confl a' b' := by
  obtain ⟨x, y, h1, h2, h3⟩ := h
  exact ⟨x, y, ha x h1, hb y h2, h3⟩
noncomputable def AskAt (zs : Zs) (ts : List Stp) (vs : List Int) (k : Nat) (x : Lk) : Prop := ∃ j, j < k ∧ j < vs.length ∧ x.1 = ((ts.getD j (.add 0 0)).place : Int) ∧ x.2.1 = edOf (nowOf ts (vs.take (j + 1)) (ts.getD j (.add 0 0)).place) x.2.2.1 ∧ x.2.2.1 ∈ askedS zs (vs.take (j + 1)) (ts.getD j (.add 0 0))
theorem AskAt.more {v : Int} (h : AskAt zs ts vs k x) : AskAt zs ts (vs ++ [v]) (k + 1) x := by
  obtain ⟨j, h1, h2, h3⟩ := h
  refine ⟨j, by omega, by simp; omega, ?_⟩
  rw [List.take_append_of_le_length (by omega)]
  exact h3
theorem AskAt.up (h : AskAt zs ts vs k x) : AskAt zs ts vs (k + 1) x := by
  obtain ⟨j, h1, h2, h3⟩ := h
  exact ⟨j, by omega, h2, h3⟩
end
end Dm
set_option maxHeartbeats 1000000
namespace Dm
open PySem L2
end Dm
set_option maxHeartbeats 1000000
namespace Dm
open PySem L2
end Dm
set_option maxHeartbeats 1000000
namespace Dm
open PySem L2
end Dm
set_option maxHeartbeats 1000000
namespace Dm
open PySem L2
noncomputable def hrB (row : List Kd) : D → Bool
  | .int i => decide (0 ≤ i) && (decide (i < row.length) && !decide (row.getD i.toNat .spn = .spn))
  | _ => false
noncomputable def moB : D → Bool
  | .int i => decide (0 ≤ i) && decide (i ≤ 1000000)
  | _ => false
noncomputable def wshB (row : List Kd) : D → Bool
  | .tup [.str w] => decide (w = "found")
  | .tup [.str w, a, b] => (decide (w = "same") || decide (w = "order")) && (hrB row a && hrB row b)
  | .tup [.str w, a, b, c] => decide (w = "near") && (hrB row a && hrB row b && moB c)
  | _ => false
section
variable {S : Sto} {zs : Zs} {ts : List Stp} {d x y c : D} {E : EX} {Q : D → Sto → Prop} {n p : Nat} {row : List Kd} {w : Str} {sl : List Sl}
theorem is_hour_odd (hn : S[n]? = some (.lst (row.map Kd.d))) (hd : OddD d) : m_is_hour [.cell n, d] S = .ok (.bl (hrB row d)) S := by
  refine pure_of fun Q q => ?_
  have hl : gLen S [.cell n] = some (.int row.length) := by rw [gLen_cell hn, List.length_map]
  have io := is_integer_odd (S := S) hd
  refine does_def rfl ?_
  cases hd with
  | int i =>
    by_cases h0 : 0 ≤ i
    · by_cases h1 : i < row.length
      · obtain ⟨k, hk, ix⟩ := row_look hn h0 h1
        have e : row.getD i.toNat .spn = k := by rw [List.getD_eq_getElem?_getD, hk]; rfl
        have e2 : (k.s == ("span" : Str)) = decide (k = .spn) := by cases k <;> decide +kernel
        have q : Q (.bl (!decide (k = .spn))) S := by
          have : hrB row (.int i) = !decide (k = .spn) := by
            show (decide (0 ≤ i) && (decide (i < row.length) && !decide (row.getD i.toNat .spn = .spn))) = _
            rw [e]
            simp [h0, h1]
          rw [← this]; exact q
        simp [hl, h0, h1, ix, e2]
        simpa using q
      · have q : Q (.bl false) S := by
          have : hrB row (.int i) = false := by simp [hrB, h1]
          rw [← this]; exact q
        simp [hl, h0, h1]
        exact q
    · have q : Q (.bl false) S := by
        have : hrB row (.int i) = false := by simp [hrB, h0]
        rw [← this]; exact q
      simp [h0]
      exact q
  | _ => simp [io, isI]; exact q
theorem wishPs_cases (h : wishPs w = some sl) : (w = "found" ∧ sl = []) ∨ (w = "same" ∧ sl = [.p .pt, .p .pt]) ∨ (w = "order" ∧ sl = [.p .pt, .p .pt]) ∨ (w = "near" ∧ sl = [.p .pt, .p .pt, .most]) := by
  unfold wishPs at h
  by_cases h1 : ("found" : Str) = w
  · rw [if_pos h1] at h; cases h; exact .inl ⟨h1.symm, rfl⟩
  rw [if_neg h1] at h
  by_cases h2 : ("same" : Str) = w
  · rw [if_pos h2] at h; cases h; exact .inr (.inl ⟨h2.symm, rfl⟩)
  rw [if_neg h2] at h
  by_cases h3 : ("order" : Str) = w
  · rw [if_pos h3] at h; cases h; exact .inr (.inr (.inl ⟨h3.symm, rfl⟩))
  rw [if_neg h3] at h
  by_cases h4 : ("near" : Str) = w
  · rw [if_pos h4] at h; cases h; exact .inr (.inr (.inr ⟨h4.symm, rfl⟩))
  rw [if_neg h4] at h
  cases h
theorem gAll_two {a b : Bool} : gAll S [.lst [.bl a, .bl b]] = some (.bl (a && b)) := by
  simp [gAll, lstOf, blsOf]
theorem wsh_len {w : Str} {sl : List Sl} {r : List D} (h : wishPs w = some sl) (hl : ¬ r.length = sl.length) : wshB row (.tup (.str w :: r)) = false := by
  rcases wishPs_cases h with ⟨rfl, rfl⟩ | ⟨rfl, rfl⟩ | ⟨rfl, rfl⟩ | ⟨rfl, rfl⟩ <;> (simp at hl)
  · match r, hl with
    | [_], _ => rfl
    | [_, _], _ => simp (decide := true) [wshB]
    | [_, _, _], _ => simp (decide := true) [wshB]
    | _ :: _ :: _ :: _ :: _, _ => rfl
  · match r, hl with
    | [], _ => simp (decide := true) [wshB]
    | [_], _ => rfl
    | [_, _, _], _ => simp (decide := true) [wshB]
    | _ :: _ :: _ :: _ :: _, _ => rfl
  · match r, hl with
    | [], _ => simp (decide := true) [wshB]
    | [_], _ => rfl
    | [_, _, _], _ => simp (decide := true) [wshB]
    | _ :: _ :: _ :: _ :: _, _ => rfl
  · match r, hl with
    | [], _ => simp (decide := true) [wshB]
    | [_], _ => rfl
    | [_, _], _ => simp (decide := true) [wshB]
    | _ :: _ :: _ :: _ :: _, _ => rfl
theorem wsh_none {w : Str} {r : List D} (h : wishPs w = none) : wshB row (.tup (.str w :: r)) = false := by
  have n1 : ¬ w = ("found" : Str) := fun e => by subst e; simp (decide := true) [wishPs] at h
  have n2 : ¬ w = ("same" : Str) := fun e => by subst e; simp (decide := true) [wishPs] at h
  have n3 : ¬ w = ("order" : Str) := fun e => by subst e; simp (decide := true) [wishPs] at h
  have n4 : ¬ w = ("near" : Str) := fun e => by subst e; simp (decide := true) [wishPs] at h
  match r with
  | [] => simp [wshB, n1]
  | [a] => rfl
  | [a, b] => simp [wshB, n2, n3]
  | [a, b, c] => simp [wshB, n4]
  | _ :: _ :: _ :: _ :: _ => rfl
theorem wsh_pair {w : Str} {a b : D} (h : wishPs w = some [.p .pt, .p .pt]) : wshB row (.tup [.str w, a, b]) = (hrB row a && hrB row b) := by
  rcases wishPs_cases h with ⟨rfl, e⟩ | ⟨rfl, _⟩ | ⟨rfl, _⟩ | ⟨rfl, e⟩
  · cases e
  · simp (decide := true) [wshB]
  · simp (decide := true) [wshB]
  · cases e
theorem wshB_not {x : D} {r : List D} (h : ∀ w, x ≠ .str w) : wshB row (.tup (x :: r)) = false := by
  cases x with
  | str w => exact (h w rfl).elim
  | _ =>
    match r with
    | [] => rfl
    | [a] => rfl
    | [a, b] => rfl
    | [a, b, c] => rfl
    | _ :: _ :: _ :: _ :: _ => rfl
theorem wishPs_three {w : Str} {sl : List Sl} (h : wishPs w = some sl) : (w = "found" ∧ sl = []) ∨ sl = [.p .pt, .p .pt] ∨ (w = "near" ∧ sl = [.p .pt, .p .pt, .most]) := by
  rcases wishPs_cases h with h | h | h | h
  · exact .inl h
  · exact .inr (.inl h.2)
  · exact .inr (.inl h.2)
  · exact .inr (.inr h)
theorem wshB_ntup {d : D} (h : ∀ ds, d ≠ .tup ds) : wshB row d = false := by
  cases d with
  | tup ds => exact (h ds rfl).elim
  | _ => rfl
theorem wish_fits_odd {m : Nat} {Q : D → Sto → Prop} (ok : ProgFrom m [.mom] ts) (hl : ts.length ≤ 60) (hd : OddD d) (q : ∀ S', Grow S S' → Q (.bl (wshB (kindsFrom [.mom] ts) d)) S') : (m_wish_fits [progD ts, d] S).Does Q := by
  have kn : ∀ {M : D → Sto → Prop}, (∀ S', Grow S S' → S'[S.length]? = some (.lst ((kindsFrom [.mom] ts).map Kd.d)) → M (.cell S.length) S') → (m_kinds_of [progD ts] S).Does M := fun q => kinds_of_does ok hl (q _ (Grow.refl.push _) (by simp))
  have no : wshB (kindsFrom [.mom] ts) d = false → Q (.bl false) S := fun e => by
    have := q S .refl
    rw [e] at this
    exact this
  refine does_def rfl ?_
  rcases odd_tup hd S with ⟨ds, rfl, hl, hds⟩ | ⟨ty, ht, hn, ne⟩
  · cases ds with
    | nil =>
      simp [isTn]
      exact no rfl
    | cons x r =>
      have hx := hds x (by simp)
      have hr : ∀ y, y ∈ r → OddD y := fun y hy => hds y (List.mem_cons_of_mem _ hy)
      simp at hl
      have hne : ¬ ((r.length : Int) + 1 = 0) := by omega
      rcases odd_str hx S with ⟨w, rfl⟩ | ⟨ty, ht, hn, ne⟩
      · have tl := tabW_look w
        simp only [tabW] at tl
        cases hps : wishPs w with
        | none =>
          rw [hps] at tl
          simp only [Option.map_none] at tl
          simp [isTn, hne, tl]
          exact no (wsh_none hps)
        | some sl =>
          rw [hps] at tl
          simp only [Option.map_some] at tl
          by_cases hL : r.length = sl.length
          · rcases wishPs_three hps with ⟨rfl, rfl⟩ | rfl | ⟨rfl, rfl⟩
            · obtain rfl : r = [] := List.eq_nil_of_length_eq_zero hL
              simp [isTn, tl, slD]
              refine kn fun S' g c => ?_
              simp [wipeD, cutW1, gAll, lstOf, blsOf]
              exact q S' g
            · obtain ⟨a, b, rfl⟩ : ∃ a b, r = [a, b] := match r, hL with | [_, _], _ => ⟨_, _, rfl⟩
              have ha := hr a (by simp)
              have hb := hr b (by simp)
              simp [isTn, tl, slD]
              refine kn fun S' g c => ?_
              have q := q S' g
              rw [wsh_pair hps] at q
              simp [wipeD, cutW3, is_hour_odd c ha, is_hour_odd c hb, gAll_two]
              cases e1 : hrB (kindsFrom [.mom] ts) a <;> cases e2 : hrB (kindsFrom [.mom] ts) b <;> (rw [e1, e2] at q; simp; exact q)
            · obtain ⟨a, b, c, rfl⟩ : ∃ a b c, r = [a, b, c] := match r, hL with | [_, _, _], _ => ⟨_, _, _, rfl⟩
              have ha := hr a (by simp)
              have hb := hr b (by simp)
              have hc := hr c (by simp)
              simp [isTn, tl, slD]
              refine kn fun S' g cc => ?_
              have e : wshB (kindsFrom [.mom] ts) (.tup [.str "near", a, b, c]) = (hrB (kindsFrom [.mom] ts) a && hrB (kindsFrom [.mom] ts) b && moB c) := by simp (decide := true) [wshB]
              have q := q S' g
              rw [e] at q
              have io := is_integer_odd (S := S') hc
              simp [wipeD, cutW4, is_hour_odd cc ha, is_hour_odd cc hb, gAll_two, atI4]
              cases e1 : hrB (kindsFrom [.mom] ts) a
              · rw [e1] at q; simp; exact q
              · cases e2 : hrB (kindsFrom [.mom] ts) b
                · rw [e1, e2] at q; simp; exact q
                · rw [e1, e2] at q
                  cases hc with
                  | int i =>
                    by_cases h0 : 0 ≤ i <;> by_cases h1 : i ≤ 1000000 <;> simp [moB, h0, h1] at q ⊢ <;> exact q
                  | _ => simp [io, isI]; exact q
          · have hL2 : ¬ (r.length : Int) = sl.length := by omega
            simp [isTn, hne, tl, slD, hL2, hL]
            exact no (wsh_len hps hL)
      · simp [show isTn .tup .tup = true from rfl, hne, ht, hn]
        exact no (wshB_not ne)
  · simp [ht, hn]
    exact no (wshB_ntup ne)
end
end Dm
set_option maxHeartbeats 1000000
namespace Dm
open PySem L2
end Dm
set_option maxHeartbeats 1000000
namespace Dm
open PySem L2
end Dm
set_option maxHeartbeats 1000000
namespace Dm
open PySem L2 PySem.Builtin PySem.Builtin.Str PySem.StrLaws
open PySem.NumText
end Dm
set_option maxHeartbeats 1000000
namespace Dm
open PySem L2 PySem.Builtin PySem.Builtin.Str PySem.StrLaws
open PySem.NumText
section
variable {S : Sto} {row ks : List Kd} {nz n r : Nat} {w v : Str} {p : Pt} {ps : List Pt} {d : D}
theorem gIn_strs {neg : Bool} {ws : List Str} : gIn neg S (.str v) (.lst (ws.map .str)) = some (.bl (if neg then !decide (v ∈ ws) else decide (v ∈ ws))) := by
  unfold gIn
  have hs : seqOf S (.lst (ws.map .str)) = some (ws.map .str) := rfl
  rw [hs]
  have h1 : (ws.map D.str).all flatD = true := by rw [List.all_eq_true]; intro d hd; obtain ⟨k, _, rfl⟩ := List.mem_map.mp hd; rfl
  simp only [h1, and_true]
  have hf : flatD (.str v) = true := rfl
  rw [if_pos hf]
  have e : ((ws.map D.str).any fun x => eqF x (.str v)) = decide (v ∈ ws) := by
    rw [Bool.eq_iff_iff, List.any_eq_true, decide_eq_true_eq]
    constructor
    · rintro ⟨d, hd, e⟩
      obtain ⟨j, hj, rfl⟩ := List.mem_map.mp hd
      have e : (j == v) = true := e
      rw [beq_iff_eq] at e
      rw [← e]; exact hj
    · intro h
      exact ⟨.str v, List.mem_map.mpr ⟨v, h, rfl⟩, by show (v == v) = true; simp⟩
  rw [e]
end
end Dm
set_option maxHeartbeats 1000000
namespace Dm
open PySem L2
section
variable {S : Sto} {zs : Zs} {ts : List Stp} {d x y c : D} {E : EX} {Q : D → Sto → Prop} {n p : Nat} {row : List Kd} {w : Str} {sl : List Sl}
theorem whole_oddQ (h : OddD d) : m_law_whole [d] S = .ok (.bl (isI d)) S := by
  refine pure_of fun Q q => ?_
  refine does_def rfl ?_
  cases h <;> (simp [isTn, tyOf, isI] at q ⊢; exact q)
noncomputable def bodyWt : MS := (mIfS (mOr (mNot (mCall m_law_whole (mCons (mVar 3) mNil))) (mOr (mOp gLt (mVar 3) (mK (.int 0))) (mOr (mOp gGe (mVar 3) (mCallB gLen (mCons (mVar 0) mNil))) (mOp gEq (mOp gIx (mVar 0) (mVar 3)) (mK (.str "span")))))) (mRet (mK (.bl false))) mNop)
theorem want_step {a : D} {ρ : Rho} {EO : EXO} {N B C : Rho → Sto → Prop} {R : D → Sto → Prop} (hn : S[n]? = some (.lst (row.map Kd.d))) (ha : OddD a) (h0 : ρ[0]? = some (some (.cell n))) (h3 : ρ[3]? = some (some a)) (y : hrB row a = true → N ρ S) (no : hrB row a = false → R (.bl false) S) : (bodyWt ρ S).DoesE EO N R B C := by
  have hl : gLen S [.cell n] = some (.int row.length) := by rw [gLen_cell hn, List.length_map]
  have wl := whole_oddQ (S := S) ha
  unfold bodyWt
  cases ha with
  | int i =>
    by_cases c0 : 0 ≤ i
    · by_cases c1 : i < row.length
      · obtain ⟨k, hk, ix⟩ := row_look hn c0 c1
        have e : row.getD i.toNat .spn = k := by rw [List.getD_eq_getElem?_getD, hk]; rfl
        have e2 : (k.s == ("span" : Str)) = decide (k = .spn) := by cases k <;> decide +kernel
        have e3 : hrB row (.int i) = !decide (k = .spn) := by
          show (decide (0 ≤ i) && (decide (i < row.length) && !decide (row.getD i.toNat .spn = .spn))) = _
          rw [e]
          simp [c0, c1]
        rw [e3] at y no
        have c2 : ¬ i < 0 := by omega
        have c3 : ¬ (row.length : Int) ≤ i := by omega
        have e4 : (k.s = ("span" : Str)) = (k = .spn) := by
          have := e2
          rw [Bool.eq_iff_iff] at this
          simpa using this
        by_cases hk2 : k = .spn
        · simp [h0, h3, hl, c2, c3, ix, e4, hk2]
          exact no (by simp [hk2])
        · simp [h0, h3, hl, c2, c3, ix, e4, hk2]
          exact y (by simp [hk2])
      · have c2 : ¬ i < 0 := by omega
        have c3 : (row.length : Int) ≤ i := by omega
        simp [h0, h3, hl, c2, c3]
        exact no (by simp [hrB, c1])
    · have c2 : i < 0 := by omega
      simp [h0, h3, hl, c2]
      exact no (by simp [hrB, c0])
  | _ => simp [h0, h3, wl, isI]; exact no rfl
theorem is_want_odd (hn : S[n]? = some (.lst (row.map Kd.d))) (hd : OddD d) : m_law_is_want [.cell n, d] S = .ok (.bl (wshB row d)) S := by
  refine pure_of fun Q q => ?_
  have no : wshB row d = false → Q (.bl false) S := fun e => by rw [e] at q; exact q
  have two : ∀ (a b : D) (x2 : Option D) (N B C : Rho → Sto → Prop), OddD a → OddD b → ((hrB row a && hrB row b) = true → N [some (.cell n), some d, x2, some b] S) → ((hrB row a && hrB row b) = false → Q (.bl false) S) → (forL (tgN 3) bodyWt [a, b] [some (.cell n), some d, x2, none] S).DoesE (eOut NoE) N Q B C := by
    intro a b x2 N B C ha hb y no
    rw [does_forL_cons]
    show (bodyWt [some (.cell n), some d, x2, some a] S).DoesE _ _ _ _ _
    refine want_step hn ha rfl rfl (fun h1 => ?_) fun h1 => ?_
    · rw [does_forL_cons]
      show (bodyWt [some (.cell n), some d, x2, some b] S).DoesE _ _ _ _ _
      refine want_step hn hb rfl rfl (fun h2 => ?_) fun h2 => ?_
      · rw [does_forL_nil]
        exact y (by rw [h1, h2]; rfl)
      · exact no (by rw [h1, h2]; rfl)
    · exact no (by rw [h1]; rfl)
  unfold bodyWt at two
  refine does_def rfl ?_
  rcases odd_tup hd S with ⟨ds, rfl, hl, hds⟩ | ⟨ty, ht, hn', ne⟩
  · cases ds with
    | nil =>
      simp [isTn]
      exact no rfl
    | cons x r =>
      have hx := hds x (by simp)
      have hr : ∀ y, y ∈ r → OddD y := fun y hy => hds y (List.mem_cons_of_mem _ hy)
      simp at hl
      have hne : ¬ ((r.length : Int) + 1 = 0) := by omega
      rcases odd_str hx S with ⟨w, rfl⟩ | ⟨ty, ht, hn', ne⟩
      · have gi : gIn true S (.str w) (.lst [.str "same", .str "order", .str "near"]) = some (.bl (!decide (w ∈ (["same", "order", "near"] : List Str)))) := gIn_strs (S := S) (neg := true) (v := w) (ws := ["same", "order", "near"])
        cases hps : wishPs w with
        | none =>
          have n1 : ¬ w = ("found" : Str) := fun e => by subst e; simp (decide := true) [wishPs] at hps
          have n2 : ¬ w = ("same" : Str) := fun e => by subst e; simp (decide := true) [wishPs] at hps
          have n3 : ¬ w = ("order" : Str) := fun e => by subst e; simp (decide := true) [wishPs] at hps
          have n4 : ¬ w = ("near" : Str) := fun e => by subst e; simp (decide := true) [wishPs] at hps
          have gi : gIn true S (.str w) (.lst [.str "same", .str "order", .str "near"]) = some (.bl true) := by
            rw [gi]
            simp [n2, n3, n4]
          simp [isTn, hne, n1, n4, gi]
          exact no (wsh_none hps)
        | some sl =>
          by_cases n1 : w = ("found" : Str)
          · subst n1
            obtain rfl : sl = [] := by
              simp [wishPs] at hps
              exact hps
            cases r with
            | nil => simp [isTn]; exact q
            | cons a r =>
              have : ¬ ((r.length : Int) + 1 + 1 = 1) := by omega
              simp [isTn, hne, this]
              exact no (wsh_len hps (by simp))
          · have gi : gIn true S (.str w) (.lst [.str "same", .str "order", .str "near"]) = some (.bl false) := by
              rw [gi]
              rcases wishPs_cases hps with ⟨rfl, _⟩ | ⟨rfl, _⟩ | ⟨rfl, _⟩ | ⟨rfl, _⟩
              · exact (n1 rfl).elim
              all_goals rfl
            by_cases n4 : w = ("near" : Str)
            · subst n4
              obtain rfl : sl = [.p .pt, .p .pt, .most] := by
                rcases wishPs_three hps with ⟨e, _⟩ | rfl | ⟨_, rfl⟩
                · exact (n1 e).elim
                · simp (decide := true) [wishPs] at hps
                · rfl
              by_cases hL : r.length = 3
              · obtain ⟨a, b, c, rfl⟩ : ∃ a b c, r = [a, b, c] := match r, hL with | [_, _, _], _ => ⟨_, _, _, rfl⟩
                have ha := hr a (by simp)
                have hb := hr b (by simp)
                have hc := hr c (by simp)
                have e : wshB row (.tup [.str "near", a, b, c]) = (hrB row a && hrB row b && moB c) := by simp (decide := true) [wshB]
                rw [e] at q
                have wl := whole_oddQ (S := S) hc
                simp [isTn, gi, n1, cutW4, -does_forL_cons]
                refine two a b _ _ _ _ ha hb (fun h1 => ?_) fun h1 => ?_
                · rw [h1] at q
                  cases hc with
                  | int i =>
                    by_cases h0 : 0 ≤ i <;> by_cases h2 : i ≤ 1000000 <;> simp (decide := true) [moB, h0, h2, atI4] at q ⊢ <;> exact q
                  | _ => simp (decide := true) [wl, isI, atI4]; exact q
                · rw [h1] at q; exact q
              · have : ¬ ((r.length : Int) + 1 = 4) := by omega
                simp [isTn, hne, gi, n1, this]
                exact no (wsh_len hps hL)
            · obtain rfl : sl = [.p .pt, .p .pt] := by
                rcases wishPs_three hps with ⟨e, _⟩ | rfl | ⟨e, _⟩
                · exact (n1 e).elim
                · rfl
                · exact (n4 e).elim
              by_cases hL : r.length = 2
              · obtain ⟨a, b, rfl⟩ : ∃ a b, r = [a, b] := match r, hL with | [_, _], _ => ⟨_, _, rfl⟩
                have ha := hr a (by simp)
                have hb := hr b (by simp)
                rw [wsh_pair hps] at q
                simp [isTn, gi, n1, n4, cutW3, -does_forL_cons]
                refine two a b _ _ _ _ ha hb (fun h1 => ?_) fun h1 => ?_
                · rw [h1] at q; simp (decide := true); exact q
                · rw [h1] at q; exact q
              · have : ¬ ((r.length : Int) + 1 = 3) := by omega
                simp [isTn, hne, gi, n1, n4, this]
                exact no (wsh_len hps hL)
      · simp [show isTn .tup .tup = true from rfl, hne, ht, hn']
        exact no (wshB_not ne)
  · simp [ht, hn']
    exact no (wshB_ntup ne)
end
end Dm
set_option maxHeartbeats 1000000
namespace Dm
open PySem L2
section
variable {S : Sto} {zs : Zs} {ts : List Stp} {d x y c : D} {E : EX} {Q : D → Sto → Prop} {n p nz : Nat} {row : List Kd} {w : Str} {sl : List Sl}
noncomputable def aod1 : List D := [.non, .bl true, .bl false, .int 0, .int 1, .int (-1), .int 8, .int 9, .int 1000000000000000000000000000000, .int (-1000000000000000000000000000000)]
noncomputable def aod2 : List D := [.str "", .str "found", .str "0", .str "near", .tup [], .lst [], .lst [.int 0], .tup [.int 0], .tup [.tup []]]
noncomputable def aod3 : List D := [.tup [.str "found"], .lst [.str "found"], .str "foundx", .str "Same", .int 1000001]
noncomputable def aod4 : List D := [.exn "Refused" [("step", 1)], .exn "HourError" [], .tup [.str "same", .int 0, .int 0], .lst [.tup []]]
theorem odd_one {x : D} (h : OddD x) : OddD (.tup [x]) := .tup (by simp) fun d hd => by rw [List.mem_singleton.mp hd]; exact h
theorem oddL_one {x : D} (h : OddD x) : OddD (.lst [x]) := .lst (by simp) fun d hd => by rw [List.mem_singleton.mp hd]; exact h
theorem odd_nil : OddD (.tup []) := .tup (by simp) fun d hd => nomatch hd
theorem oddL_nil : OddD (.lst []) := .lst (by simp) fun d hd => nomatch hd
theorem odd_three {x y z : D} (h : OddD x) (h2 : OddD y) (h3 : OddD z) : OddD (.tup [x, y, z]) := .tup (by simp) fun d hd => by
  simp at hd
  rcases hd with rfl | rfl | rfl
  · exact h
  · exact h2
  · exact h3
theorem aod_odd : ∀ d, d ∈ ((aod1 ++ aod2) ++ aod3) ++ aod4 → OddD d := by
  intro d hd
  simp only [List.mem_append] at hd
  rcases hd with ((hd | hd) | hd) | hd
  · simp only [aod1, List.mem_cons, List.not_mem_nil, or_false] at hd
    rcases hd with rfl | rfl | rfl | rfl | rfl | rfl | rfl | rfl | rfl | rfl
    · exact .non
    · exact .bl _
    · exact .bl _
    all_goals exact .int _
  · simp only [aod2, List.mem_cons, List.not_mem_nil, or_false] at hd
    rcases hd with rfl | rfl | rfl | rfl | rfl | rfl | rfl | rfl | rfl
    · exact .str _
    · exact .str _
    · exact .str _
    · exact .str _
    · exact odd_nil
    · exact oddL_nil
    · exact oddL_one (.int _)
    · exact odd_one (.int _)
    · exact odd_one odd_nil
  · simp only [aod3, List.mem_cons, List.not_mem_nil, or_false] at hd
    rcases hd with rfl | rfl | rfl | rfl | rfl
    · exact odd_one (.str _)
    · exact oddL_one (.str _)
    · exact .str _
    · exact .str _
    · exact .int _
  · simp only [aod4, List.mem_cons, List.not_mem_nil, or_false] at hd
    rcases hd with rfl | rfl | rfl | rfl
    · exact .exn _ _
    · exact .exn _ _
    · exact odd_three (.str _) (.int _) (.int _)
    · exact oddL_one odd_nil
theorem pick_from {L : List D} {r : Int} (r0 : 0 ≤ r) (r1 : r < L.length) : ∃ d, d ∈ L ∧ atI L r = some d := by
  have e := List.getElem?_eq_getElem (l := L) (i := r.toNat) (by omega)
  exact ⟨_, List.getElem_mem _, by rw [atI_of r0 r1, e]⟩
end
end Dm
set_option maxHeartbeats 1000000
namespace Dm
open PySem L2
end Dm
set_option maxHeartbeats 1000000
namespace Dm
open PySem L2
noncomputable def Shw (k w : Nat) (d : D) : Prop := ∃ p, shD ["HourError", "Refused"] d = some p ∧ p.1 ≤ k ∧ p.2.length ≤ w
noncomputable def okD (k w : Nat) (d : D) : Bool := match shD ["HourError", "Refused"] d with
  | some p => decide (p.1 ≤ k) && decide (p.2.length ≤ w)
  | none => false
theorem shw_of {k w : Nat} {d : D} (h : okD k w d = true) : Shw k w d := by
  unfold okD at h
  cases q : shD ["HourError", "Refused"] d with
  | none => rw [q] at h; cases h
  | some p =>
    rw [q] at h
    simp at h
    exact ⟨p, q, h.1, h.2⟩
theorem Shw.mono {k k' w w' : Nat} {d : D} (h : Shw k w d) (h1 : k ≤ k') (h2 : w ≤ w') : Shw k' w' d := by
  obtain ⟨p, e, a, b⟩ := h
  exact ⟨p, e, by omega, by omega⟩
theorem shw_all {k w : Nat} : ∀ {ds : List D}, (∀ d, d ∈ ds → Shw k w d) → ∃ p, shDs ["HourError", "Refused"] ds = some p ∧ p.1 ≤ max 4 k ∧ p.2.length = ds.length ∧ (p.2.map (·.length)).sum ≤ w * ds.length
  | [], _ => ⟨(4, []), by unfold shDs; rfl, by show 4 ≤ max 4 k; omega, rfl, by simp⟩
  | d :: ds, h => by
    obtain ⟨p, e, a, b⟩ := h d List.mem_cons_self
    obtain ⟨q, e2, a2, b2, c2⟩ := shw_all fun x hx => h x (List.mem_cons_of_mem _ hx)
    refine ⟨(max p.1 q.1, p.2 :: q.2), by unfold shDs; rw [e, e2]; rfl, ?_, ?_, ?_⟩
    · show max p.1 q.1 ≤ _
      omega
    · show q.2.length + 1 = ds.length + 1
      omega
    · show p.2.length + (q.2.map (·.length)).sum ≤ w * (ds.length + 1)
      rw [Nat.mul_succ]
      omega
theorem shw_tup {k w n : Nat} {ds : List D} (h : ∀ d, d ∈ ds → Shw k w d) (hl : ds.length ≤ n) (hk : 4 ≤ k) : Shw (k + 1) ((w + 2) * n + 3) (.tup ds) := by
  obtain ⟨p, e, a, b, c⟩ := shw_all h
  refine ⟨(p.1 + 1, tupleText p.2), by unfold shD; rw [e]; rfl, ?_, ?_⟩
  · show p.1 + 1 ≤ k + 1
    omega
  · have h1 := tupleText_len_le p.2
    have h2 : (w + 2) * ds.length ≤ (w + 2) * n := Nat.mul_le_mul_left _ hl
    rw [Nat.add_mul] at h2
    show (tupleText p.2).length ≤ _
    omega
theorem shw_lst {k w n : Nat} {ds : List D} (h : ∀ d, d ∈ ds → Shw k w d) (hl : ds.length ≤ n) (hk : 4 ≤ k) : Shw (k + 1) ((w + 2) * n + 3) (.lst ds) := by
  obtain ⟨p, e, a, b, c⟩ := shw_all h
  refine ⟨(p.1 + 1, listText p.2), by unfold shD; rw [e]; rfl, ?_, ?_⟩
  · show p.1 + 1 ≤ k + 1
    omega
  · have h1 := listText_len_le p.2
    have h2 : (w + 2) * ds.length ≤ (w + 2) * n := Nat.mul_le_mul_left _ hl
    rw [Nat.add_mul] at h2
    show (listText p.2).length ≤ _
    omega
theorem shw_int {i : Int} (h : i.natAbs < 100000000000000) : Shw 4 60 (.int i) := by
  have r := rpB_int h
  have h1 := r.sh
  have h2 := r.len
  simp only [PyData.showable, decide_eq_true_eq] at h1
  simp only [PyData.shown] at h2
  exact ⟨(4, toString i), by unfold shD; rw [if_pos h1], Nat.le_refl _, by show (Str.ofString (toString i)).length ≤ 60; omega⟩
theorem shw_non : Shw 4 60 .non := shw_of (by decide +kernel)
theorem shw_bl (b : Bool) : Shw 4 60 (.bl b) := by cases b <;> exact shw_of (by decide +kernel)
theorem reprX_of {k w : Nat} {d : D} (h : Shw k w d) (hk : k ≤ 60) (hw : w ≤ 16777216) : ∃ x, ∀ S, gReprX ["HourError", "Refused"] S [d] = some (.str x) := by
  obtain ⟨p, e, a, b⟩ := h
  refine ⟨p.2, fun S => ?_⟩
  unfold gReprX
  simp only [e]
  rw [if_pos ⟨by omega, by rw [show sizeLine = 16777216 from rfl]; omega⟩]
noncomputable def aod4T : List D := [.exn "Refused" (mkd "a find is refused"), .exn "HourError" (mkd "odd"), .tup [.str "same", .int 0, .int 0], .lst [.tup []]]
theorem aod_okT : (((aod1 ++ aod2) ++ aod3) ++ aod4T).all (okD 8 60) = true := by decide +kernel
noncomputable def OS (k w : Nat) (d : D) : Prop := OddD d ∧ Shw k w d
section
variable {S : Sto} {zs : Zs} {ts : List Stp} {d x y c : D} {E : EX} {Q : D → Sto → Prop} {n p nz r : Nat} {row : List Kd} {w : Str} {sl : List Sl} {wh : Wsh}
theorem aod_odd_T : ∀ d, d ∈ ((aod1 ++ aod2) ++ aod3) ++ aod4T → OS 8 60 d := by
  intro d hd
  refine ⟨?_, shw_of (List.all_eq_true.mp aod_okT d hd)⟩
  rcases List.mem_append.mp hd with h | h
  · exact aod_odd d (List.mem_append_left _ h)
  · simp only [aod4T, List.mem_cons, List.not_mem_nil, or_false] at h
    rcases h with rfl | rfl | rfl | rfl
    · exact .exn _ _
    · exact .exn _ _
    · exact odd_three (.str _) (.int _) (.int _)
    · exact oddL_one odd_nil
theorem any_odd2_does (hp : Bag p (n + 1) S) (q : ∀ d S', OS 8 60 d → Bag p n S' → GoB p S S' → Q d S') : (m_law_any_odd_v2 [.cell p] S).Does Q := by
  refine does_def rfl ?_
  refine seq_cut (fun ρ S' => ρ = [some (.cell p), some (.lst aod1)] ∧ S = S') (fun M hM => ?_) ?_
  · simp
    exact hM _ _ ⟨rfl, rfl⟩
  rintro ρ _ ⟨rfl, rfl⟩
  refine seq_cut (fun ρ S' => ρ = [some (.cell p), some (.lst (aod1 ++ aod2))] ∧ S = S') (fun M hM => ?_) ?_
  · simp [aod1]
    exact hM _ _ ⟨rfl, rfl⟩
  rintro ρ _ ⟨rfl, rfl⟩
  refine seq_cut (fun ρ S' => ρ = [some (.cell p), some (.lst ((aod1 ++ aod2) ++ aod3))] ∧ S = S') (fun M hM => ?_) ?_
  · simp [aod1, aod2]
    exact hM _ _ ⟨rfl, rfl⟩
  rintro ρ _ ⟨rfl, rfl⟩
  refine seq_cut (fun ρ S' => ρ = [some (.cell p), some (.lst (((aod1 ++ aod2) ++ aod3) ++ aod4T))] ∧ S = S') (fun M hM => ?_) ?_
  · simp [aod1, aod2, aod3]
    exact hM _ _ ⟨rfl, rfl⟩
  rintro ρ _ ⟨rfl, rfl⟩
  have hl : (((aod1 ++ aod2) ++ aod3) ++ aod4T).length = 28 := rfl
  have ho := aod_odd_T
  generalize ((aod1 ++ aod2) ++ aod3) ++ aod4T = L at hl ho
  simp [hl]
  refine pick2_does hp (by decide) (by decide) fun r S1 b1 g1 r0 r1 => ?_
  obtain ⟨d, hd, e⟩ := pick_from (L := L) r0 (by omega)
  simp [e]
  exact q d S1 (ho d hd) b1 g1
theorem p_cut {P : D → Prop} {ds : List D} (h : ∀ d, d ∈ ds → P d) (lo hi : Option Int) : (∀ d, d ∈ cutD ds lo hi → P d) ∧ (cutD ds lo hi).length ≤ ds.length := by
  refine ⟨fun d hd => h d ?_, ?_⟩
  · unfold cutD at hd
    exact List.mem_of_mem_drop (List.mem_of_mem_take hd)
  · unfold cutD
    rw [List.length_take, List.length_drop]; omega
theorem p_app {P : D → Prop} {a b : List D} (h1 : ∀ d, d ∈ a → P d) (h2 : ∀ d, d ∈ b → P d) : ∀ d, d ∈ a ++ b → P d := fun d hd => by
  rcases List.mem_append.mp hd with h | h
  · exact h1 d h
  · exact h2 d h
theorem bendP_does {P : D → Prop} {ds : List D} (hl : ds.length ≤ 30) (hds : ∀ d, d ∈ ds → P d) (ho : P x) (hp : Bag p (n + 2) S)
    (q : ∀ d es S', (d = .tup es ∨ d = .lst es) → es.length ≤ 2 * ds.length + 1 + ds.length → (∀ e, e ∈ es → P e) → Bag p n S' → GoB p S S' → Q d S') : (m_law_bend [.cell p, .tup ds, x] S).Does Q := by
  refine does_def rfl ?_
  refine seq_cut (fun ρ S' => ∃ way at_ : Int, 0 ≤ way ∧ way < 8 ∧ 0 ≤ at_ ∧ at_ ≤ ds.length ∧ Bag p n S' ∧ GoB p S S' ∧ ρ = [some (.cell p), some (.tup ds), some x, some (.int way), some (.int at_)]) (fun M hM => ?_) ?_
  · simp
    refine pick2_does (n := n + 1) hp (by decide) (by decide) fun r S2 b2 g2 r0 r1 => ?_
    refine pick2_does b2 (by omega) (by omega) fun r' S3 b3 g3 s0 s1 => ?_
    exact hM _ _ ⟨r, r', r0, r1, s0, by omega, b3, g2.trans g3, rfl⟩
  rintro ρ S2 ⟨way, at_, w0, w8, a0, al, b2, g2, rfl⟩
  obtain ⟨o1, l1⟩ := p_cut hds none (some at_)
  obtain ⟨o2, l2⟩ := p_cut hds (some at_) none
  obtain ⟨o3, l3⟩ := p_cut hds (some (at_ + 1)) none
  obtain ⟨o4, l4⟩ := p_cut hds (some (at_ + 2)) none
  obtain ⟨o5, l5⟩ := p_cut hds (some at_) (some (at_ + 1))
  obtain ⟨o6, l6⟩ := p_cut hds (some at_) (some (at_ + 2))
  generalize e1 : cutD ds none (some at_) = a1 at *
  generalize e2 : cutD ds (some at_) none = a2 at *
  generalize e3 : cutD ds (some (at_ + 1)) none = a3 at *
  generalize e4 : cutD ds (some (at_ + 2)) none = a4 at *
  generalize e5 : cutD ds (some at_) (some (at_ + 1)) = a5 at *
  generalize e6 : cutD ds (some at_) (some (at_ + 2)) = a6 at *
  have ox : ∀ d, d ∈ [x] → P d := fun d hd => by rw [List.mem_singleton.mp hd]; exact ho
  have three : ∀ a b c : List D, a.length ≤ ds.length → b.length ≤ ds.length + 1 → c.length ≤ ds.length → (∀ d, d ∈ a → P d) → (∀ d, d ∈ b → P d) → (∀ d, d ∈ c → P d) → Q (.tup (a ++ b ++ c)) S2 := by
    intro a b c h1 h2 h3 p1 p2 p3
    exact q _ _ S2 (.inl rfl) (by simp; omega) (p_app (p_app p1 p2) p3) b2 g2
  refine num_at rfl (fun c0 => ?_) fun c0 => ?_
  · simp
    exact q _ _ S2 (.inr rfl) (by omega) hds b2 g2
  refine num_at rfl (fun c1 => ?_) fun c1 => ?_
  · have := three a1 [x] a2 (by omega) (by simp) (by omega) o1 ox o2
    simp [e1, e2]
    simp at this
    exact ⟨by omega, by omega, this⟩
  refine num_at rfl (fun c2 => ?_) fun c2 => ?_
  · have := three a1 [] a3 (by omega) (by simp) (by omega) o1 (fun _ h => nomatch h) o3
    simp [e1, e3]
    simp at this
    exact ⟨by omega, this⟩
  refine num_at rfl (fun c3 => ?_) fun c3 => ?_
  · have := three a1 a5 a2 (by omega) (by omega) (by omega) o1 o5 o2
    simp [e1, e2, e5]
    simp at this
    exact ⟨by omega, by omega, this⟩
  refine num_at rfl (fun c4 => ?_) fun c4 => ?_
  · have := three a1 a6.reverse a4 (by omega) (by simp; omega) (by omega) o1 (fun d hd => o6 d (by simpa using hd)) o4
    simp [e1, e4, e6]
    simp at this
    exact ⟨by omega, by omega, this⟩
  · have := three a1 [x] a3 (by omega) (by simp) (by omega) o1 ox o3
    simp [e1, e3]
    simp at this
    exact ⟨by omega, by omega, this⟩
theorem is_wish_oddd (z : ZsOK zs) (ok : ProgOK zs.length ts) (hd : OddD d) (q : ∀ S', Grow S S' → Q (.bl (wshB (kindsFrom [.mom] ts) d)) S') : (m_is_wish [zonesD zs, progD ts, d] S).Does Q := by
  have ol := ok.len
  refine does_def rfl ?_
  simp [need_zones_ok z]
  refine need_program_does z ok ?_
  refine wish_fits_odd ok.steps (by omega) hd fun S' g => ?_
  exact q S' (Grow.trans ⟨_, rfl⟩ g)
theorem asked_does {k w : Nat} (z : ZsOK zs) (ok : ProgOK zs.length ts) (hr : S[r]? = some (.lst ((kindsFrom [.mom] ts).map Kd.d))) (hd : OS k w d) (hk : k ≤ 60) (hw : w ≤ 16777216) (q : ∀ S', Grow S S' → Q (.bl true) S') : (m_law_asked_v7 [zonesD zs, progD ts, .cell r, d] S).Does Q := by
  obtain ⟨x, hx⟩ := reprX_of hd.2 hk hw
  refine does_def rfl ?_
  simp [hx]
  refine is_wish_oddd z ok hd.1 fun S' g => ?_
  simp [is_want_odd (g.get hr) hd.1, tells_ok]
  exact q S' g
end
end Dm
set_option maxHeartbeats 2000000
namespace Dm
open PySem L2
section
variable {S : Sto} {zs : Zs} {ts : List Stp} {d x y c : D} {E : EX} {Q : D → Sto → Prop} {n p nz r : Nat} {row : List Kd} {w : Str} {sl : List Sl} {wh : Wsh}
theorem os_int {i : Int} (h : i.natAbs < 100000000000000) : OS 8 60 (.int i) := ⟨.int _, (shw_int h).mono (by omega) (Nat.le_refl _)⟩
theorem os_str {x : Str} (h : okD 8 60 (.str x) = true) : OS 8 60 (.str x) := ⟨.str _, shw_of h⟩
theorem os_tup {k w n : Nat} {ds : List D} (h : ∀ d, d ∈ ds → OS k w d) (hl : ds.length ≤ n) (hn : n ≤ 1000) (hk : 4 ≤ k) : OS (k + 1) ((w + 2) * n + 3) (.tup ds) := ⟨.tup (by omega) fun d hd => (h d hd).1, shw_tup (fun d hd => (h d hd).2) hl hk⟩
theorem os_lst {k w n : Nat} {ds : List D} (h : ∀ d, d ∈ ds → OS k w d) (hl : ds.length ≤ n) (hn : n ≤ 1000) (hk : 4 ≤ k) : OS (k + 1) ((w + 2) * n + 3) (.lst ds) := ⟨.lst (by omega) fun d hd => (h d hd).1, shw_lst (fun d hd => (h d hd).2) hl hk⟩
theorem OS.mono {k k' w w' : Nat} {d : D} (h : OS k w d) (h1 : k ≤ k') (h2 : w ≤ w') : OS k' w' d := ⟨h.1, h.2.mono h1 h2⟩
theorem wsh_os (hl : ts.length ≤ 60) (h : wh.OK (kindsFrom [.mom] ts)) : ∃ w0 ds, wh.d = .tup (.str w0 :: ds) ∧ ds.length ≤ 3 ∧ (∀ d, d ∈ ds → OS 8 60 d) ∧ OS 8 60 (.str w0) ∧ OS 8 60 (.str (w0 ++ " ")) ∧ w0.length ≤ 10 := by
  have hh : ∀ {a : Nat}, HourI (kindsFrom [.mom] ts) a → (a : Int).natAbs < 100000000000000 := fun {a} h => by
    obtain ⟨k, hk, _⟩ := h
    have := (List.getElem?_eq_some_iff.mp hk).1
    rw [kindsFrom_length] at this
    simp at this
    omega
  cases wh with
  | found => exact ⟨_, [], rfl, by simp, (fun d hd => nomatch hd), os_str (by decide +kernel), os_str (by decide +kernel), by decide +kernel⟩
  | same a b =>
    refine ⟨_, [.int a, .int b], rfl, by simp, fun d hd => ?_, os_str (by decide +kernel), os_str (by decide +kernel), by decide +kernel⟩
    simp at hd
    rcases hd with rfl | rfl
    · exact os_int (hh h.1)
    · exact os_int (hh h.2)
  | order a b =>
    refine ⟨_, [.int a, .int b], rfl, by simp, fun d hd => ?_, os_str (by decide +kernel), os_str (by decide +kernel), by decide +kernel⟩
    simp at hd
    rcases hd with rfl | rfl
    · exact os_int (hh h.1)
    · exact os_int (hh h.2)
  | near a b w =>
    refine ⟨_, [.int a, .int b, .int w], rfl, by simp, fun d hd => ?_, os_str (by decide +kernel), os_str (by decide +kernel), by decide +kernel⟩
    simp at hd
    rcases hd with rfl | rfl | rfl
    · exact os_int (hh h.1)
    · exact os_int (hh h.2.1)
    · have := h.2.2
      exact os_int (by omega)
theorem is_wish_okk (z : ZsOK zs) (ok : ProgOK zs.length ts) (h : wh.OK (kindsFrom [.mom] ts)) (q : ∀ S', Grow S S' → Q (.bl true) S') : (m_is_wish [zonesD zs, progD ts, wh.d] S).Does Q := by
  have ol := ok.len
  refine does_def rfl ?_
  simp [need_zones_ok z]
  refine need_program_does z ok ?_
  refine wish_fits_does ok.steps (by omega) h fun S' g => ?_
  exact q S' (Grow.trans ⟨_, rfl⟩ g)
theorem asked_if {k w : Nat} {ρ : Rho} {EO : EXO} {N B C : Rho → Sto → Prop} {R : D → Sto → Prop} {me : ME} (z : ZsOK zs) (ok : ProgOK zs.length ts) (hr : S[r]? = some (.lst ((kindsFrom [.mom] ts).map Kd.d))) (h1 : ρ[1]? = some (some (zonesD zs))) (h2 : ρ[2]? = some (some (progD ts))) (h3 : ρ[3]? = some (some (.cell r)))
    (he : ∀ M : D → Sto → Prop, M d S → (me ρ S).Does M) (hd : OS k w d) (hk : k ≤ 60) (hw : w ≤ 16777216) (q : ∀ S', Grow S S' → N ρ S') : (mIfS (mNot (mCall m_law_asked_v7 (mCons (mVar 1) (mCons (mVar 2) (mCons (mVar 3) (mCons me mNil)))))) (mRet (mK (.bl false))) mNop ρ S).DoesE EO N R B C := by
  simp [h1, h2, h3]
  refine Res.Does.toE (he _ ?_)
  refine Res.Does.toE (asked_does z ok hr hd hk hw fun S' g => ?_)
  simp
  exact q S' g
theorem right_k37 (b0 : Bag p 9223372036854775808 S) : (m_law_right_v31 [.cell p] S).Does fun d _ => d = .bl true := by
  refine does_def rfl ?_
  refine seq_cut (fun ρ S' => ∃ zs, Bag p 100000 S' ∧ ZsOK zs ∧ ρ = [some (.cell p), some (zonesD zs), none, none, none, none, none, none, none, none, none]) (fun M hM => ?_) ?_
  · simp
    refine pick2_does (n := 200000) (b0.mono (by decide)) (by decide) (by decide) fun r S1 b1 g1 r0 r1 => ?_
    obtain ⟨many, hm, em⟩ : ∃ many : Nat, (many = 1 ∨ many = 2) ∧ (1 + r : Int) = many := ⟨(1 + r).toNat, by omega, by omega⟩
    simp [em]
    refine draw_fields_does (n := 100000) hm (by decide) (b1.mono (by omega)) fun zs S2 b2 g2 z hl ho => ?_
    exact hM _ _ ⟨zs, b2, z, rfl⟩
  rintro ρ S1 ⟨zs, b1, z, rfl⟩
  have zl : 1 ≤ zs.length ∧ zs.length ≤ 2 := by rcases z.len with h | h <;> omega
  have gz : ∀ S, gLen S [zonesD zs] = some (.int zs.length) := fun S => by simp [zonesD]
  refine seq_cut (fun ρ S' => ∃ ts, Bag p 90000 S' ∧ ProgOK zs.length ts ∧ ρ = [some (.cell p), some (zonesD zs), some (progD ts), none, none, none, none, none, none, none, none]) (fun M hM => ?_) ?_
  · simp [gz]
    refine pick2_does (n := 99998) (b1.mono (by omega)) (by decide) (by decide) fun r S3 b3 g3 r0 r1 => ?_
    refine minutes8_does (n := 99900) (b3.mono (by omega)) z fun ms S4 b4 g4 lm hms => ?_
    have e0 : (.tup [] : D) = progD [] := rfl
    rw [e0]
    refine draw_tale_does (ts0 := []) (n := 90000) (b4.mono (by simp; omega)) ⟨by omega, by omega⟩ trivial (by omega) (by decide) (by decide) lm hms (by omega) fun ts S5 b5 g5 hf hl hc he hn => ?_
    rw [List.nil_append] at hf he
    have hl8 : ts.length ≤ 8 := by rw [hl]; simp; omega
    unfold cnt at he
    exact hM _ _ ⟨ts, b5, ⟨hl8, hf, by omega⟩, rfl⟩
  rintro ρ S2 ⟨ts, b2, ok, rfl⟩
  have ol := ok.len
  refine seq_cut (fun ρ S' => ∃ r, r ≠ p ∧ S'[r]? = some (.lst ((kindsFrom [.mom] ts).map Kd.d)) ∧ Bag p 90000 S' ∧ ρ = [some (.cell p), some (zonesD zs), some (progD ts), some (.cell r), some (.lst (hoursD ts)), none, none, none, none, none, none]) (fun M hM => ?_) ?_
  · simp
    refine kinds_in_does ok.steps (by omega) fun S3 g3 l3 c3 => ?_
    refine hours_in_does ok.steps (by omega) fun S4 g4 => ?_
    have hrp : S2.length ≠ p := fun e => by
      have := b2.lt
      omega
    exact hM _ _ ⟨S2.length, hrp, g4.get c3, b2.growT (g3.trans g4), rfl⟩
  rintro ρ S3 ⟨r, hrp, c3, b3, rfl⟩
  have gl : ∀ S, S[r]? = some (.lst ((kindsFrom [.mom] ts).map Kd.d)) → gLen S [.cell r] = some (.int (ts.length + 1 : Nat)) := fun S h => by rw [gLen_cell h, List.length_map, kinds_len1]
  refine seq_cut (fun ρ S' => S'[r]? = some (.lst ((kindsFrom [.mom] ts).map Kd.d)) ∧ ∃ x5 x6 x7 x8, ρ = [some (.cell p), some (zonesD zs), some (progD ts), some (.cell r), some (.lst (hoursD ts)), x5, x6, x7, x8, none, none]) (fun M hM => ?_) ?_
  · rw [does_for]
    simp [-does_forL_cons]
    refine forL_cut (fun ds ρ S' => ds.length ≤ 8 ∧ S'[r]? = some (.lst ((kindsFrom [.mom] ts).map Kd.d)) ∧ Bag p (20 * ds.length) S' ∧ ∃ x5 x6 x7 x8, ρ = [some (.cell p), some (zonesD zs), some (progD ts), some (.cell r), some (.lst (hoursD ts)), x5, x6, x7, x8, none, none]) _
      ⟨by simp [rngD_length], c3, b3.mono (by simp [rngD_length]), _, _, _, _, rfl⟩ ?_ ?_
    · rintro d ds ρ S4 ⟨l4, c4, b4, x5, x6, x7, x8, rfl⟩
      refine ⟨_, rfl, fun M2 hM2 => ?_⟩
      simp only [List.length_cons] at l4 b4
      refine seq_cut (fun ρ S' => ∃ w0 ws, ws.length ≤ 3 ∧ (∀ d, d ∈ ws → OS 8 60 d) ∧ OS 8 60 (.str w0) ∧ OS 8 60 (.str (w0 ++ " ")) ∧ w0.length ≤ 10 ∧ (∃ wh : Wsh, wh.OK (kindsFrom [.mom] ts) ∧ wh.d = .tup (.str w0 :: ws)) ∧ S'[r]? = some (.lst ((kindsFrom [.mom] ts).map Kd.d)) ∧ Bag p (20 * ds.length + 14) S' ∧
        ρ = [some (.cell p), some (zonesD zs), some (progD ts), some (.cell r), some (.lst (hoursD ts)), some d, some (.tup (.str w0 :: ws)), x7, x8, none, none]) (fun M hM => ?_) ?_
      · simp
        refine draw_want_does (n := 20 * ds.length + 14) (b4.mono (by omega)) (by omega) fun w S5 b5 g5 hw => ?_
        obtain ⟨w0, ws, e, h1, h2, h3, h4, h5⟩ := wsh_os (by omega) hw
        rw [e]
        exact hM _ _ ⟨w0, ws, h1, h2, h3, h4, h5, ⟨w, hw, e⟩, g5.get c4 hrp, b5, rfl⟩
      rintro ρ S5 ⟨w0, ws, h1, h2, h3, h4, h5, ⟨wh, hw, ew⟩, c5, b5, rfl⟩
      refine seq_cut (fun ρ S' => S'[r]? = some (.lst ((kindsFrom [.mom] ts).map Kd.d)) ∧ Bag p (20 * ds.length + 14) S' ∧
        ρ = [some (.cell p), some (zonesD zs), some (progD ts), some (.cell r), some (.lst (hoursD ts)), some d, some (.tup (.str w0 :: ws)), x7, x8, none, none]) (fun M hM => ?_) ?_
      · simp
        rw [← ew]
        refine is_wish_okk z ok hw fun S6 g6 => ?_
        rw [show gIsB true S6 (D.bl true) (D.bl true) = some (.bl false) from rfl, ew]
        refine ⟨rfl, ?_⟩
        exact hM _ _ ⟨g6.get c5, b5.growT g6, rfl⟩
      rintro ρ S6 ⟨c6, b6, rfl⟩
      have hall : ∀ d, d ∈ (D.str w0 :: ws) → OS 8 60 d := fun d hd => by
        rcases List.mem_cons.mp hd with rfl | hd
        · exact h3
        · exact h2 d hd
      refine seq_cut (fun ρ S' => ∃ y es, (y = .tup es ∨ y = .lst es) ∧ es.length ≤ 13 ∧ (∀ e, e ∈ es → OS 8 60 e) ∧ S'[r]? = some (.lst ((kindsFrom [.mom] ts).map Kd.d)) ∧ Bag p (20 * ds.length + 11) S' ∧
        ρ = [some (.cell p), some (zonesD zs), some (progD ts), some (.cell r), some (.lst (hoursD ts)), some d, some (.tup (.str w0 :: ws)), some y, x8, none, none]) (fun M hM => ?_) ?_
      · simp
        refine any_odd2_does (n := 20 * ds.length + 13) b6 fun x S7 hx b7 g7 => ?_
        refine bendP_does (n := 20 * ds.length + 11) (by simp; omega) hall hx b7 fun y es S8 hy hes hpe b8 g8 => ?_
        exact hM _ _ ⟨y, es, hy, by simp at hes; omega, hpe, g8.get (g7.get c6 hrp) hrp, b8, rfl⟩
      rintro ρ S7 ⟨y, es, hy, hes, hpe, c7, b7, rfl⟩
      have hyo : OS 9 1000 y := by
        rcases hy with rfl | rfl
        · exact (os_tup (n := 13) hpe hes (by omega) (by omega)).mono (by omega) (by omega)
        · exact (os_lst (n := 13) hpe hes (by omega) (by omega)).mono (by omega) (by omega)
      refine seq_cut (fun ρ S' => S'[r]? = some (.lst ((kindsFrom [.mom] ts).map Kd.d)) ∧ Bag p (20 * ds.length + 10) S' ∧ ∃ x8,
        ρ = [some (.cell p), some (zonesD zs), some (progD ts), some (.cell r), some (.lst (hoursD ts)), some d, some (.tup (.str w0 :: ws)), some y, x8, none, none]) (fun M hM => ?_) ?_
      · have cutw : cutD (D.str w0 :: ws) (some 1) none = ws := by
          match ws, h1 with
          | [], _ => rfl
          | [_], _ => rfl
          | [_, _], _ => rfl
          | [_, _, _], _ => rfl
        simp [-does_forL_cons]
        refine any_odd2_does (n := 20 * ds.length + 10) b7 fun x S8 hx b8 g8 => ?_
        simp [-does_forL_cons, cutw]
        have l1 : (Str.ofString " ").length = 1 := by rw [ofString_length]; rfl
        refine ⟨by omega, by omega, ?_⟩
        have ho : ∀ e, e ∈ [y, x, D.tup [y], D.tup (D.str (w0 ++ Str.ofString " ") :: ws)] → OS 20 100000 e := fun e he => by
          simp at he
          rcases he with rfl | rfl | rfl | rfl
          · exact hyo.mono (by omega) (by omega)
          · exact hx.mono (by omega) (by omega)
          · exact (os_tup (n := 1) (fun e he => by rw [List.mem_singleton.mp he]; exact hyo) (by simp) (by omega) (by omega)).mono (by omega) (by omega)
          · refine (os_tup (n := 4) (k := 8) (w := 60) (fun e he => ?_) (by simp; omega) (by omega) (by omega)).mono (by omega) (by omega)
            rcases List.mem_cons.mp he with rfl | he
            · exact h4
            · exact h2 e he
        generalize [y, x, D.tup [y], D.tup (D.str (w0 ++ Str.ofString " ") :: ws)] = L at ho
        refine forL_cut (fun L ρ S' => (∀ e, e ∈ L → OS 20 100000 e) ∧ Grow S8 S' ∧ ∃ x8, ρ = [some (.cell p), some (zonesD zs), some (progD ts), some (.cell r), some (.lst (hoursD ts)), some d, some (.tup (.str w0 :: ws)), some y, x8, none, none]) _ ⟨ho, .refl, _, rfl⟩ ?_ ?_
        · rintro e L ρ S9 ⟨hL, g9, x8', rfl⟩
          refine ⟨_, rfl, fun M3 hM3 => ?_⟩
          refine asked_if z ok (g9.get (g8.get c7 hrp)) rfl rfl rfl (fun M hM => by simp; exact hM) (hL e List.mem_cons_self) (by omega) (by omega) fun S10 g10 => ?_
          exact hM3 _ _ ⟨fun e he => hL e (List.mem_cons_of_mem _ he), g9.trans g10, _, rfl⟩
        · rintro ρ S9 ⟨_, g9, x8', rfl⟩
          exact hM _ _ ⟨g9.get (g8.get c7 hrp), b8.growT g9, _, rfl⟩
      rintro ρ S8 ⟨c8, b8, x8, rfl⟩
      refine seq_cut (fun ρ S' => ∃ y, OS 9 3000 y ∧ S'[r]? = some (.lst ((kindsFrom [.mom] ts).map Kd.d)) ∧ Bag p (20 * ds.length) S' ∧
        ρ = [some (.cell p), some (zonesD zs), some (progD ts), some (.cell r), some (.lst (hoursD ts)), some d, some (.tup (.str w0 :: ws)), some y, x8, none, none]) (fun M hM => ?_) ?_
      · rcases hy with rfl | rfl
        · simp [isTn]
          refine any_odd2_does (n := 20 * ds.length + 9) b8 fun x S9 hx b9 g9 => ?_
          refine bendP_does (n := 20 * ds.length) (by omega) hpe hx (b9.mono (by omega)) fun y es S10 hy hes' hpe b10 g10 => ?_
          refine hM _ _ ⟨y, ?_, g10.get (g9.get c8 hrp) hrp, b10, rfl⟩
          rcases hy with rfl | rfl
          · exact (os_tup (n := 40) hpe (by omega) (by omega) (by omega)).mono (by omega) (by omega)
          · exact (os_lst (n := 40) hpe (by omega) (by omega) (by omega)).mono (by omega) (by omega)
        · simp [isTn]
          exact hM _ _ ⟨_, hyo.mono (by omega) (by omega), c8, b8.mono (by omega), rfl⟩
      rintro ρ S9 ⟨y, hy2, c9, b9, rfl⟩
      refine asked_if z ok c9 rfl rfl rfl (fun M hM => by simp; exact hM) hy2 (by omega) (by omega) fun S10 g10 => ?_
      exact hM2 _ _ ⟨by omega, g10.get c9, b9.growT g10, _, _, _, _, rfl⟩
    · rintro ρ S4 ⟨_, c4, _, x5, x6, x7, x8, rfl⟩
      exact hM _ _ ⟨c4, _, _, _, _, rfl⟩
  rintro ρ S4 ⟨c4, x5, x6, x7, x8, rfl⟩
  refine seq_cut (fun ρ S' => S'[r]? = some (.lst ((kindsFrom [.mom] ts).map Kd.d)) ∧ ∃ x5 x6 x7 x8 x9, ρ = [some (.cell p), some (zonesD zs), some (progD ts), some (.cell r), some (.lst (hoursD ts)), x5, x6, x7, x8, x9, none]) (fun M hM => ?_) ?_
  · rw [does_for]
    simp [-does_forL_cons, gl _ c4]
    refine ⟨⟨by omega, by omega, by omega⟩, ?_⟩
    refine forL_cut (fun ds ρ S' => (∀ d, d ∈ ds → ∃ i : Int, d = .int i ∧ -1 ≤ i ∧ i ≤ 100) ∧ S'[r]? = some (.lst ((kindsFrom [.mom] ts).map Kd.d)) ∧ ∃ x5 x6 x7 x8 x9, ρ = [some (.cell p), some (zonesD zs), some (progD ts), some (.cell r), some (.lst (hoursD ts)), x5, x6, x7, x8, x9, none]) _
      ⟨fun d hd => ?_, c4, _, _, _, _, _, rfl⟩ ?_ ?_
    · unfold rngD at hd
      obtain ⟨j, hj, rfl⟩ := List.mem_map.mp hd
      have := List.mem_range.mp hj
      exact ⟨_, rfl, by omega, by omega⟩
    · rintro d ds ρ S5 ⟨hds, c5, x5, x6, x7, x8, x9, rfl⟩
      obtain ⟨i, rfl, i0, i1⟩ := hds _ List.mem_cons_self
      refine ⟨_, rfl, fun M2 hM2 => ?_⟩
      rw [does_for]
      simp [-does_forL_cons]
      have ho : ∀ e, e ∈ [D.tup [.str "same", .int i, .int 0], D.tup [.str "order", .int 0, .int i], D.tup [.str "near", .int i, .int 0, .int (i + 1)], D.tup [.str "near", .int 0, .int i, .int 1000000]] → OS 20 100000 e := fun e he => by
        have oi : OS 8 60 (.int i) := os_int (by omega)
        have o0 : OS 8 60 (.int 0) := os_int (by omega)
        have oj : OS 8 60 (.int (i + 1)) := os_int (by omega)
        have om : OS 8 60 (.int 1000000) := os_int (by omega)
        have o1 : OS 8 60 (.str "same") := os_str (by decide +kernel)
        have o2 : OS 8 60 (.str "order") := os_str (by decide +kernel)
        have o3 : OS 8 60 (.str "near") := os_str (by decide +kernel)
        simp only [List.mem_cons, List.not_mem_nil, or_false] at he
        rcases he with rfl | rfl | rfl | rfl <;> refine (os_tup (n := 4) (k := 8) (w := 60) (fun e he => ?_) (by simp) (by omega) (by omega)).mono (by omega) (by omega) <;> simp only [List.mem_cons, List.not_mem_nil, or_false] at he
        · rcases he with rfl | rfl | rfl <;> assumption
        · rcases he with rfl | rfl | rfl <;> assumption
        · rcases he with rfl | rfl | rfl | rfl <;> assumption
        · rcases he with rfl | rfl | rfl | rfl <;> assumption
      generalize [D.tup [.str "same", .int i, .int 0], D.tup [.str "order", .int 0, .int i], D.tup [.str "near", .int i, .int 0, .int (i + 1)], D.tup [.str "near", .int 0, .int i, .int 1000000]] = L at ho ⊢
      refine forL_cut (fun L ρ S' => (∀ e, e ∈ L → OS 20 100000 e) ∧ Grow S5 S' ∧ ∃ x6, ρ = [some (.cell p), some (zonesD zs), some (progD ts), some (.cell r), some (.lst (hoursD ts)), x5, x6, x7, x8, some (.int i), none]) _ ⟨ho, .refl, _, rfl⟩ ?_ ?_
      · rintro e L ρ S9 ⟨hL, g9, x6', rfl⟩
        refine ⟨_, rfl, fun M3 hM3 => ?_⟩
        refine asked_if z ok (g9.get c5) rfl rfl rfl (fun M hM => by simp; exact hM) (hL e List.mem_cons_self) (by omega) (by omega) fun S10 g10 => ?_
        exact hM3 _ _ ⟨fun e he => hL e (List.mem_cons_of_mem _ he), g9.trans g10, _, rfl⟩
      · rintro ρ S9 ⟨_, g9, x6', rfl⟩
        exact hM2 _ _ ⟨fun d hd => hds d (List.mem_cons_of_mem _ hd), g9.get c5, _, _, _, _, _, rfl⟩
    · rintro ρ S5 ⟨_, c5, x5, x6, x7, x8, x9, rfl⟩
      exact hM _ _ ⟨c5, _, _, _, _, _, rfl⟩
  rintro ρ S5 ⟨c5, x5, x6, x7, x8, x9, rfl⟩
  refine seq_cut (fun ρ S' => True) (fun M hM => ?_) ?_
  · rw [does_for]
    simp [-does_forL_cons]
    have ho : ∀ e, e ∈ [D.int 0, .int 1000000, .int 1000001, .int (-1), .bl true, .str "0", .non] → OS 8 60 e := fun e he => by
      simp only [List.mem_cons, List.not_mem_nil, or_false] at he
      rcases he with rfl | rfl | rfl | rfl | rfl | rfl | rfl
      · exact os_int (by omega)
      · exact os_int (by omega)
      · exact os_int (by omega)
      · exact os_int (by omega)
      · exact ⟨.bl _, (shw_bl _).mono (by omega) (Nat.le_refl _)⟩
      · exact os_str (by decide +kernel)
      · exact ⟨.non, shw_non.mono (by omega) (Nat.le_refl _)⟩
    generalize [D.int 0, .int 1000000, .int 1000001, .int (-1), .bl true, .str "0", .non] = L at ho ⊢
    refine forL_cut (fun L ρ S' => (∀ e, e ∈ L → OS 8 60 e) ∧ Grow S5 S' ∧ ∃ x10, ρ = [some (.cell p), some (zonesD zs), some (progD ts), some (.cell r), some (.lst (hoursD ts)), x5, x6, x7, x8, x9, x10]) _ ⟨ho, .refl, _, rfl⟩ ?_ ?_
    · rintro e L ρ S9 ⟨hL, g9, x10, rfl⟩
      refine ⟨_, rfl, fun M3 hM3 => ?_⟩
      have hd : OS 20 100000 (D.tup [.str "near", .int 0, .int 0, e]) := by
        refine (os_tup (n := 4) (k := 8) (w := 60) (fun e' he => ?_) (by simp) (by omega) (by omega)).mono (by omega) (by omega)
        simp only [List.mem_cons, List.not_mem_nil, or_false] at he
        rcases he with rfl | rfl | rfl | rfl
        · exact os_str (by decide +kernel)
        · exact os_int (by omega)
        · exact os_int (by omega)
        · exact hL _ List.mem_cons_self
      refine asked_if z ok (g9.get c5) rfl rfl rfl (fun M hM => by simp; exact hM) hd (by omega) (by omega) fun S10 g10 => ?_
      exact hM3 _ _ ⟨fun e he => hL e (List.mem_cons_of_mem _ he), g9.trans g10, _, rfl⟩
    · rintro ρ S9 _
      exact hM _ _ trivial
  rintro ρ S6 _
  simp
end
theorem law_k37_wishes_about_a_program_true : LawTrue m_law_k37_wishes_about_a_program_v2 := law_loop2 fun p S b => right_k37 b
end Dm
end
open PySem PySem.W PyProof.Rows in
set_option maxRecDepth 100000 in
set_option maxHeartbeats 0 in
theorem PySem.Challenge.cw_hoursmeant_k37_wishes_about_a_program_holds : PySem.Challenge.rw_hoursmeant_k37_wishes_about_a_program.Holds := by
  refine hd0 ?_
  k_fill
  refine V.walk (l := PySem.Challenge.rw_hoursmeant_k37_wishes_about_a_program) rfl rfl (fun w h Y => PySem.W.kIn_of Y) ?F
  case F =>
    intro w mg fa h KX G hmg
    refine' V.all_mk Dm.law_k37_wishes_about_a_program_true KX G hmg ?a0 ?l0 ?c0 ?k0 ?a1 ?l1 ?c1 ?k1 ?a2 ?l2 ?c2 ?k2 ?a3 ?l3 ?c3 ?k3 ?a4 ?l4 ?c4 ?k4 ?a5 ?l5 ?c5 ?k5 ?a6 ?l6 ?c6 ?k6 ?a7 ?l7 ?c7 ?k7 ?a8 ?l8 ?c8 ?k8 ?a9 ?l9 ?c9 ?k9 ?a10 ?l10 ?c10 ?k10 ?a11 ?l11 ?c11 ?k11 ?a12 ?l12 ?c12 ?k12 ?a13 ?l13 ?c13 ?k13 ?a14 ?l14 ?c14 ?k14 ?a15 ?l15 ?c15 ?k15 ?a16 ?l16 ?c16 ?k16 ?a17 ?l17 ?c17 ?k17 ?a18 ?l18 ?c18 ?k18 ?a19 ?l19 ?c19 ?k19 ?a20 ?l20 ?c20 ?k20 ?a21 ?l21 ?c21 ?k21 ?a22 ?l22 ?c22 ?k22 ?a23 ?l23 ?c23 ?k23 ?a24 ?l24 ?c24 ?k24 ?a25 ?l25 ?c25 ?k25 ?a26 ?l26 ?c26 ?k26 ?a27 ?l27 ?c27 ?k27 ?a28 ?l28 ?c28 ?k28 ?a29 ?l29 ?c29 ?k29 ?a30 ?l30 ?c30 ?k30 ?a31 ?l31 ?c31 ?k31 ?a32 ?l32 ?c32 ?k32 ?a33 ?l33 ?c33 ?k33 ?a34 ?l34 ?c34 ?k34 ?a35 ?l35 ?c35 ?k35 ?a36 ?l36 ?c36 ?k36 ?z0 ?z1 ?z2 ?z3 ?z4 ?z5 ?z6 ?z7 ?z8 ?z9 ?z10 ?z11 ?z12 ?v0 ?q0_1 ?v1 ?q1_1 ?v2 ?tb2 ?hs2_0 ?hs2_1 ?hs2_2 ?hs2_3 ?hs2_4 ?hs2_5 ?lw2 ?v3 ?v4 ?v5 ?v6 ?v7 ?v8 ?tb8 ?hs8_0 ?hs8_1 ?hs8_2 ?hs8_3 ?hs8_4 ?hs8_5 ?hs8_6 ?lw8 ?q8_1 ?q8_4 ?q8_9 ?q8_12 ?q8_15 ?q8_18 ?q8_21 ?v9 ?tb9 ?hs9_0 ?hs9_1 ?hs9_2 ?hs9_3 ?lw9 ?q9_1 ?q9_2 ?q9_5 ?q9_8 ?xa0 ?xq0 ?xk0 ?xb0 ?xt0 ?xa1 ?xq1 ?xk1 ?xb1 ?xt1 ?xa2 ?xq2 ?xk2 ?xb2 ?xt2 ?xf0 ?xf1 ?xf2 ?xf3 ?xf4 ?xf5 ?xf6 ?xf7 ?xf8 ?xf9 ?xf10 ?xf11 ?xf12 ?xa3 ?xf13 ?xf14 ?xf15 ?xf16 ?xf17 ?xf18 ?xf19 ?xf20 ?xf21 ?xf22 ?xf23 ?xf24 ?xf25 ?rbN0 ?xf26 ?xf27 ?rbN3 ?xf28 ?xL3 ?rb3 ?xf29 ?xf30 ?lI3 ?cI3 ?xf31 ?xf32 ?xf33 ?xf34 ?xf35 ?xf36 ?xf37 ?xf38
    (case a0 => as_aux_lemma => k_is)
    (case l0 => as_aux_lemma => k_is)
    (case c0 => as_aux_lemma => k_is)
    (case k0 => as_aux_lemma => k_is)
    (case a1 => as_aux_lemma => k_is)
    (case l1 => as_aux_lemma => k_is)
    (case c1 => as_aux_lemma => k_is)
    (case k1 => as_aux_lemma => k_is)
    (case a2 => as_aux_lemma => k_is)
    (case l2 => as_aux_lemma => k_is)
    (case c2 => as_aux_lemma => k_is)
    (case k2 => as_aux_lemma => k_is)
    (case a3 => as_aux_lemma => k_is)
    (case l3 => as_aux_lemma => k_is)
    (case c3 => as_aux_lemma => k_is)
    (case k3 => as_aux_lemma => k_is)
    (case a4 => as_aux_lemma => k_is)
    (case l4 => as_aux_lemma => k_is)
    (case c4 => as_aux_lemma => k_is)
    (case k4 => as_aux_lemma => k_is)
    (case a5 => as_aux_lemma => k_is)
    (case l5 => as_aux_lemma => k_is)
    (case c5 => as_aux_lemma => k_is)
    (case k5 => as_aux_lemma => k_is)
    (case a6 => as_aux_lemma => k_is)
    (case l6 => as_aux_lemma => k_is)
    (case c6 => as_aux_lemma => k_is)
    (case k6 => as_aux_lemma => k_is)
    (case a7 => as_aux_lemma => k_is)
    (case l7 => as_aux_lemma => k_is)
    (case c7 => as_aux_lemma => k_is)
    (case k7 => as_aux_lemma => k_is)
    (case a8 => as_aux_lemma => k_is)
    (case l8 => as_aux_lemma => k_is)
    (case c8 => as_aux_lemma => k_is)
    (case k8 => as_aux_lemma => k_is)
    (case a9 => as_aux_lemma => k_is)
    (case l9 => as_aux_lemma => k_is)
    (case c9 => as_aux_lemma => k_is)
    (case k9 => as_aux_lemma => k_is)
    (case a10 => as_aux_lemma => k_is)
    (case l10 => as_aux_lemma => k_is)
    (case c10 => as_aux_lemma => k_is)
    (case k10 => as_aux_lemma => k_is)
    (case a11 => as_aux_lemma => k_is)
    (case l11 => as_aux_lemma => k_is)
    (case c11 => as_aux_lemma => k_is)
    (case k11 => as_aux_lemma => k_is)
    (case a12 => as_aux_lemma => k_is)
    (case l12 => as_aux_lemma => k_is)
    (case c12 => as_aux_lemma => k_is)
    (case k12 => as_aux_lemma => k_is)
    (case a13 => as_aux_lemma => k_is)
    (case l13 => as_aux_lemma => k_is)
    (case c13 => as_aux_lemma => k_is)
    (case k13 => as_aux_lemma => k_is)
    (case a14 => as_aux_lemma => k_is)
    (case l14 => as_aux_lemma => k_is)
    (case c14 => as_aux_lemma => k_is)
    (case k14 => as_aux_lemma => k_is)
    (case a15 => as_aux_lemma => k_is)
    (case l15 => as_aux_lemma => k_is)
    (case c15 => as_aux_lemma => k_is)
    (case k15 => as_aux_lemma => k_is)
    (case a16 => as_aux_lemma => k_is)
    (case l16 => as_aux_lemma => k_is)
    (case c16 => as_aux_lemma => k_is)
    (case k16 => as_aux_lemma => k_is)
    (case a17 => as_aux_lemma => k_is)
    (case l17 => as_aux_lemma => k_is)
    (case c17 => as_aux_lemma => k_is)
    (case k17 => as_aux_lemma => k_is)
    (case a18 => as_aux_lemma => k_is)
    (case l18 => as_aux_lemma => k_is)
    (case c18 => as_aux_lemma => k_is)
    (case k18 => as_aux_lemma => k_is)
    (case a19 => as_aux_lemma => k_is)
    (case l19 => as_aux_lemma => k_is)
    (case c19 => as_aux_lemma => k_is)
    (case k19 => as_aux_lemma => k_is)
    (case a20 => as_aux_lemma => k_is)
    (case l20 => as_aux_lemma => k_is)
    (case c20 => as_aux_lemma => k_is)
    (case k20 => as_aux_lemma => k_is)
    (case a21 => as_aux_lemma => k_is)
    (case l21 => as_aux_lemma => k_is)
    (case c21 => as_aux_lemma => k_is)
    (case k21 => as_aux_lemma => k_is)
    (case a22 => as_aux_lemma => k_is)
    (case l22 => as_aux_lemma => k_is)
    (case c22 => as_aux_lemma => k_is)
    (case k22 => as_aux_lemma => k_is)
    (case a23 => as_aux_lemma => k_is)
    (case l23 => as_aux_lemma => k_is)
    (case c23 => as_aux_lemma => k_is)
    (case k23 => as_aux_lemma => k_is)
    (case a24 => as_aux_lemma => k_is)
    (case l24 => as_aux_lemma => k_is)
    (case c24 => as_aux_lemma => k_is)
    (case k24 => as_aux_lemma => k_is)
    (case a25 => as_aux_lemma => k_is)
    (case l25 => as_aux_lemma => k_is)
    (case c25 => as_aux_lemma => k_is)
    (case k25 => as_aux_lemma => k_is)
    (case a26 => as_aux_lemma => k_is)
    (case l26 => as_aux_lemma => k_is)
    (case c26 => as_aux_lemma => k_is)
    (case k26 => as_aux_lemma => k_is)
    (case a27 => as_aux_lemma => k_is)
    (case l27 => as_aux_lemma => k_is)
    (case c27 => as_aux_lemma => k_is)
    (case k27 => as_aux_lemma => k_is)
    (case a28 => as_aux_lemma => k_is)
    (case l28 => as_aux_lemma => k_is)
    (case c28 => as_aux_lemma => k_is)
    (case k28 => as_aux_lemma => k_is)
    (case a29 => as_aux_lemma => k_is)
    (case l29 => as_aux_lemma => k_is)
    (case c29 => as_aux_lemma => k_is)
    (case k29 => as_aux_lemma => k_is)
    (case a30 => as_aux_lemma => k_is)
    (case l30 => as_aux_lemma => k_is)
    (case c30 => as_aux_lemma => k_is)
    (case k30 => as_aux_lemma => k_is)
    (case a31 => as_aux_lemma => k_is)
    (case l31 => as_aux_lemma => k_is)
    (case c31 => as_aux_lemma => k_is)
    (case k31 => as_aux_lemma => k_is)
    (case a32 => as_aux_lemma => k_is)
    (case l32 => as_aux_lemma => k_is)
    (case c32 => as_aux_lemma => k_is)
    (case k32 => as_aux_lemma => k_is)
    (case a33 => as_aux_lemma => k_is)
    (case l33 => as_aux_lemma => k_is)
    (case c33 => as_aux_lemma => k_is)
    (case k33 => as_aux_lemma => k_is)
    (case a34 => as_aux_lemma => k_is)
    (case l34 => as_aux_lemma => k_is)
    (case c34 => as_aux_lemma => k_is)
    (case k34 => as_aux_lemma => k_is)
    (case a35 => as_aux_lemma => k_is)
    (case l35 => as_aux_lemma => k_is)
    (case c35 => as_aux_lemma => k_is)
    (case k35 => as_aux_lemma => k_is)
    (case a36 => as_aux_lemma => k_is)
    (case l36 => as_aux_lemma => k_is)
    (case c36 => as_aux_lemma => k_is)
    (case k36 => as_aux_lemma => k_is)
    (case z0 => as_aux_lemma => k_is)
    (case z1 => as_aux_lemma => k_is)
    (case z2 => as_aux_lemma => k_is)
    (case z3 => as_aux_lemma => k_is)
    (case z4 => as_aux_lemma => k_is)
    (case z5 => as_aux_lemma => k_is)
    (case z6 => as_aux_lemma => k_is)
    (case z7 => as_aux_lemma => k_is)
    (case z8 => as_aux_lemma => k_is)
    (case z9 => as_aux_lemma => k_is)
    (case z10 => as_aux_lemma => k_is)
    (case z11 => as_aux_lemma => k_is)
    (case z12 => as_aux_lemma => k_is)
    (case v0 => as_aux_lemma => k_is)
    (case q0_1 => as_aux_lemma => k_is)
    (case v1 => as_aux_lemma => k_is)
    (case q1_1 => as_aux_lemma => k_is)
    (case v2 => as_aux_lemma => k_is)
    (case tb2 => as_aux_lemma => k_is)
    (case hs2_0 => rfl)
    (case hs2_1 => rfl)
    (case hs2_2 => rfl)
    (case hs2_3 => rfl)
    (case hs2_4 => rfl)
    (case hs2_5 => rfl)
    (case lw2 => rfl)
    (case v3 => as_aux_lemma => k_is)
    (case v4 => as_aux_lemma => k_is)
    (case v5 => as_aux_lemma => k_is)
    (case v6 => as_aux_lemma => k_is)
    (case v7 => as_aux_lemma => k_is)
    (case v8 => as_aux_lemma => k_is)
    (case tb8 => as_aux_lemma => k_is)
    (case hs8_0 => rfl)
    (case hs8_1 => rfl)
    (case hs8_2 => rfl)
    (case hs8_3 => rfl)
    (case hs8_4 => rfl)
    (case hs8_5 => rfl)
    (case hs8_6 => rfl)
    (case lw8 => rfl)
    (case q8_1 => as_aux_lemma => k_is)
    (case q8_4 => as_aux_lemma => k_is)
    (case q8_9 => as_aux_lemma => k_is)
    (case q8_12 => as_aux_lemma => k_is)
    (case q8_15 => as_aux_lemma => k_is)
    (case q8_18 => as_aux_lemma => k_is)
    (case q8_21 => as_aux_lemma => k_is)
    (case v9 => as_aux_lemma => k_is)
    (case tb9 => as_aux_lemma => k_is)
    (case hs9_0 => rfl)
    (case hs9_1 => rfl)
    (case hs9_2 => rfl)
    (case hs9_3 => rfl)
    (case lw9 => rfl)
    (case q9_1 => as_aux_lemma => k_is)
    (case q9_2 => as_aux_lemma => k_is)
    (case q9_5 => as_aux_lemma => k_is)
    (case q9_8 => as_aux_lemma => k_is)
    (case xa0 => as_aux_lemma => k_is)
    (case xq0 => k_exc)
    (case xk0 => as_aux_lemma => k_is)
    (case xb0 => as_aux_lemma => k_is)
    (case xt0 => as_aux_lemma => k_is)
    (case xa1 => as_aux_lemma => k_is)
    (case xq1 => k_exc)
    (case xk1 => as_aux_lemma => k_is)
    (case xb1 => as_aux_lemma => k_is)
    (case xt1 => as_aux_lemma => k_is)
    (case xa2 => as_aux_lemma => k_is)
    (case xq2 => k_exc)
    (case xk2 => as_aux_lemma => k_is)
    (case xb2 => as_aux_lemma => k_is)
    (case xt2 => as_aux_lemma => k_is)
    (case xf0 => as_aux_lemma => k_is)
    (case xf1 => as_aux_lemma => k_is)
    (case xf2 => as_aux_lemma => k_is)
    (case xf3 => as_aux_lemma => k_is)
    (case xf4 => as_aux_lemma => k_is)
    (case xf5 => as_aux_lemma => k_is)
    (case xf6 => as_aux_lemma => k_is)
    (case xf7 => as_aux_lemma => k_is)
    (case xf8 => as_aux_lemma => k_is)
    (case xf9 => as_aux_lemma => k_is)
    (case xf10 => as_aux_lemma => k_is)
    (case xf11 => as_aux_lemma => k_is)
    (case xf12 => as_aux_lemma => k_is)
    (case xa3 => as_aux_lemma => k_is)
    (case xf13 => as_aux_lemma => k_is)
    (case xf14 => as_aux_lemma => k_is)
    (case xf15 => as_aux_lemma => k_is)
    (case xf16 => as_aux_lemma => k_is)
    (case xf17 => as_aux_lemma => k_is)
    (case xf18 => as_aux_lemma => k_is)
    (case xf19 => as_aux_lemma => k_is)
    (case xf20 => as_aux_lemma => k_is)
    (case xf21 => as_aux_lemma => k_is)
    (case xf22 => as_aux_lemma => k_is)
    (case xf23 => as_aux_lemma => k_is)
    (case xf24 => as_aux_lemma => k_is)
    (case xf25 => as_aux_lemma => k_is)
    (case rbN0 => first | rfl | decide +kernel)
    (case xf26 => as_aux_lemma => k_is)
    (case xf27 => as_aux_lemma => k_is)
    (case rbN3 => first | rfl | decide +kernel)
    (case xf28 => as_aux_lemma => k_is)
    (case xL3 => as_aux_lemma => k_is)
    (case rb3 => first | rfl | decide +kernel)
    (case xf29 => as_aux_lemma => k_is)
    (case xf30 => as_aux_lemma => k_is)
    (case lI3 => as_aux_lemma => k_is)
    (case cI3 => as_aux_lemma => k_is)
    (case xf31 => as_aux_lemma => k_is)
    (case xf32 => as_aux_lemma => k_is)
    (case xf33 => as_aux_lemma => k_is)
    (case xf34 => as_aux_lemma => k_is)
    (case xf35 => as_aux_lemma => k_is)
    (case xf36 => as_aux_lemma => k_is)
    (case xf37 => as_aux_lemma => k_is)
    (case xf38 => as_aux_lemma => k_is)
