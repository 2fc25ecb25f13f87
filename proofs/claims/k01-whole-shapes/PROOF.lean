import PyProof.Rows.All
import Wide.All
import OpenK.AllK
import Wide.FinOn
import HandS.ForMost
import HandS.ForExc
import HandS.More
import HandS.Flow
import HandS.Walk
import HandS.Wide
import HandS.TryMany
import HandS.ExcField
import HandS.CallSlots
import HandS.Deep
import KE.DataEq
import KE.DataCmp
import KE.KeyNested
import KE.KDictKeyed
import HandS.TupAny
import HandS.TupMul
import HandS.IsInst
import KE.SortData
import KE.DataMinMax
import KE.DataAny
import PyProof.ReprRoads
import HandS.WideBits
import HandS.Zip
import KE.GoesEnum
import HandS.Defaults
import HandS.Small
import HandS.SetBool
import HandS.HeadEnd
import HandS.HeadHook1
import HandS.HeadHook2
import HandS.Ends
import HandS.Codes
import HandS.SetFor
import HandS.Strs
import PyProof.Rows.StrBin
import HandS.EndBits
import HandS.Style
import HandS.Dict
import HandS.Conv
import PyProof.LongRange
import PyProof.AutoIntOps
import HandS.Words
import KE.KStateDown
import HandS.WordsExc
import HandS.Head0
import HandS.Head1
import HandS.Head2
import PySem.Challenge.RW_callsdown_k01_whole_shapes
set_option Elab.async false
set_option linter.all false
set_option maxRecDepth 100000
set_option maxHeartbeats 2000000
/-! G0: data in the place of heaps: readings of values as data, slots with owners, the judgements. -/
namespace G
open PySem PySem.Spec PyProof.Rows
open L2 hiding St Inv Binds
abbrev Inv := @L2.Inv
abbrev St := L2.St

/-! ### runs over data -/
abbrev Ev := List PyData
inductive RS (α : Type) where
  | ok (a : α) (ρ : Ev)
  | ex (c : Str) (p : PyData) (ρ : Ev)
  | bad
abbrev M (α : Type) := Ev → RS α
def M.ret {α : Type} (a : α) : M α := fun ρ => .ok a ρ
def M.bind {α β : Type} (m : M α) (f : α → M β) : M β := fun ρ => match m ρ with
  | .ok a ρ' => f a ρ'
  | .ex c p ρ' => .ex c p ρ'
  | .bad => .bad
inductive SR where
  | nx (ρ : Ev)
  | rt (d : PyData) (ρ : Ev)
  | bk (ρ : Ev)
  | ct (ρ : Ev)
  | ex (c : Str) (p : PyData) (ρ : Ev)
  | bad
abbrev MS := Ev → SR

/-! ### readings: what never changes any more -/
def fz : HO → Bool
  | .tup _ => true
  | .frz _ _ => true
  | _ => false
def keyD : Key → PyData
  | .inl i => .int i
  | .inr x => .str x
/-- a list that never changes: frozen, or the module's own -/
def SqZ (K : PySem.W.Frag) (H : Hp) (a : Addr) (xs : List V) : Prop := (∃ o, H a = some (.frz o (.lst xs))) ∨
  ∃ (o : Obj) (its : Array Value) (n : Nat), K.lookup a = some o ∧ o.cls = .type "list" ∧ o.dict = none ∧ o.data = .seq its n ∧ its.size ≤ sizeLine ∧ Vals xs its.toList
section
variable (K : PySem.W.Frag) (H : Hp)
mutual
inductive Rp : V → PyData → Prop
  | non : Rp .non .none
  | bl (b : Bool) : Rp (.bl b) (.bool b)
  | int (i : Int) : Rp (.int i) (.int i)
  | str (x : Str) : Rp (.str x) (.str x)
  | lst {a : Addr} {xs : List V} {ds : List PyData} : SqZ K H a xs → RpAll xs ds → Rp (.ref a) (.list ds)
  | tup {a : Addr} {xs : List V} {ds : List PyData} : SqT K H a xs → RpAll xs ds → Rp (.ref a) (.tuple ds)
  | dk {a : Addr} {o : Obj} {kvs : List (Key × V)} {ds : List (PyData × PyData)} : H a = some (.frz o (.dK kvs)) → RpKv kvs ds → Rp (.ref a) (.dict ds)
inductive RpAll : List V → List PyData → Prop
  | nil : RpAll [] []
  | cons {v : V} {vs : List V} {d : PyData} {ds : List PyData} : Rp v d → RpAll vs ds → RpAll (v :: vs) (d :: ds)
inductive RpKv : List (Key × V) → List (PyData × PyData) → Prop
  | nil : RpKv [] []
  | cons {k : Key} {v : V} {kvs : List (Key × V)} {d : PyData} {ds : List (PyData × PyData)} : Rp v d → RpKv kvs ds → RpKv ((k, v) :: kvs) ((keyD k, d) :: ds)
end
end
/-- what never changes is kept -/
def Kp (H H' : Hp) : Prop := ∀ b o, H b = some o → fz o = true → H' b = some o
theorem Kp.refl (H : Hp) : Kp H H := fun _ _ h _ => h
theorem Kp.trans {H H1 H2 : Hp} (a : Kp H H1) (b : Kp H1 H2) : Kp H H2 := fun c o h z => b c o (a c o h z) z
theorem Kp.of_same {H H' : Hp} (a : Same H H') : Kp H H' := fun c o h _ => a c o h
section
variable {K : PySem.W.Frag} {H H' : Hp}
theorem SqT.kp {a : Addr} {xs : List V} (k : Kp H H') (h : SqT K H a xs) : SqT K H' a xs := by
  rcases h with (h | ⟨o, h⟩) | h
  · exact .inl (.inl (k _ _ h rfl))
  · exact .inl (.inr ⟨o, k _ _ h rfl⟩)
  · exact .inr h
theorem SqZ.kp {a : Addr} {xs : List V} (k : Kp H H') (h : SqZ K H a xs) : SqZ K H' a xs := by
  rcases h with ⟨o, h⟩ | h
  · exact .inl ⟨o, k _ _ h rfl⟩
  · exact .inr h
mutual
theorem Rp.kp (k : Kp H H') : ∀ (d : PyData) (v : V), Rp K H v d → Rp K H' v d
  | .none, _, h => by cases h; exact .non
  | .bool b, _, h => by cases h; exact .bl b
  | .int i, _, h => by cases h; exact .int i
  | .str x, _, h => by cases h; exact .str x
  | .list ds, _, h => by
    cases h with
    | lst h1 h2 => exact .lst (SqZ.kp k h1) (RpAll.kp k ds _ h2)
  | .tuple ds, _, h => by
    cases h with
    | tup h1 h2 => exact .tup (SqT.kp k h1) (RpAll.kp k ds _ h2)
  | .dict ds, _, h => by
    cases h with
    | dk h1 h2 => exact .dk (k _ _ h1 rfl) (RpKv.kp k ds _ h2)
theorem RpAll.kp (k : Kp H H') : ∀ (ds : List PyData) (vs : List V), RpAll K H vs ds → RpAll K H' vs ds
  | [], _, h => by cases h; exact .nil
  | d :: ds, _, h => by
    cases h with
    | cons h1 h2 => exact .cons (Rp.kp k d _ h1) (RpAll.kp k ds _ h2)
theorem RpKv.kp (k : Kp H H') : ∀ (ds : List (PyData × PyData)) (vs : List (Key × V)), RpKv K H vs ds → RpKv K H' vs ds
  | [], _, h => by cases h; exact .nil
  | (_, d) :: ds, _, h => by
    cases h with
    | cons h1 h2 => exact .cons (Rp.kp k d _ h1) (RpKv.kp k ds _ h2)
end
theorem RpAll.len : ∀ {vs : List V} {ds : List PyData}, RpAll K H vs ds → vs.length = ds.length
  | _, _, .nil => rfl
  | _, _, .cons _ t => by rw [List.length_cons, List.length_cons, RpAll.len t]
theorem RpAll.get : ∀ {vs : List V} {ds : List PyData} {i : Nat} {v : V}, RpAll K H vs ds → vs[i]? = some v → ∃ d, ds[i]? = some d ∧ Rp K H v d
  | _, _, _, _, .nil, e => by simp at e
  | _, _, 0, _, .cons r _, e => by simp at e; subst e; exact ⟨_, rfl, r⟩
  | _, _, i + 1, v, .cons _ t, e => by
    obtain ⟨u, h1, h2⟩ := RpAll.get (i := i) (v := v) t (by simpa using e)
    exact ⟨u, by simpa using h1, h2⟩
theorem RpAll.getD : ∀ {vs : List V} {ds : List PyData} {i : Nat} {d : PyData}, RpAll K H vs ds → ds[i]? = some d → ∃ v, vs[i]? = some v ∧ Rp K H v d
  | _, _, _, _, .nil, e => by simp at e
  | _, _, 0, _, .cons r _, e => by simp at e; subst e; exact ⟨_, rfl, r⟩
  | _, _, i + 1, d, .cons _ t, e => by
    obtain ⟨u, h1, h2⟩ := RpAll.getD (i := i) (d := d) t (by simpa using e)
    exact ⟨u, by simpa using h1, h2⟩
theorem RpAll.append : ∀ {vs ws : List V} {ds es : List PyData}, RpAll K H vs ds → RpAll K H ws es → RpAll K H (vs ++ ws) (ds ++ es)
  | _, _, _, _, .nil, h => h
  | _, _, _, _, .cons r t, h => .cons r (RpAll.append t h)
theorem RpAll.take : ∀ (n : Nat) {vs : List V} {ds : List PyData}, RpAll K H vs ds → RpAll K H (vs.take n) (ds.take n)
  | 0, _, _, _ => by simp; exact .nil
  | n + 1, _, _, .nil => by simp; exact .nil
  | n + 1, _, _, .cons r t => .cons r (RpAll.take n t)
theorem RpAll.drop : ∀ (n : Nat) {vs : List V} {ds : List PyData}, RpAll K H vs ds → RpAll K H (vs.drop n) (ds.drop n)
  | 0, _, _, h => h
  | n + 1, _, _, .nil => by simp; exact .nil
  | n + 1, _, _, .cons _ t => RpAll.drop n t
theorem RpAll.set : ∀ (i : Nat) {vs : List V} {ds : List PyData} {v : V} {d : PyData}, RpAll K H vs ds → Rp K H v d → RpAll K H (vs.set i v) (ds.set i d)
  | _, _, _, _, _, .nil, _ => .nil
  | 0, _, _, _, _, .cons _ t, h => .cons h t
  | i + 1, _, _, _, _, .cons r t, h => .cons r (RpAll.set i t h)
theorem RpAll.ints : ∀ (ns : List Int), RpAll K H (ns.map V.int) (ns.map PyData.int)
  | [] => .nil
  | n :: ns => .cons (.int n) (RpAll.ints ns)
theorem RpAll.ints_inv : ∀ (ns : List Int) {vs : List V}, RpAll K H vs (ns.map PyData.int) → vs = ns.map V.int
  | [], _, h => by cases h; rfl
  | n :: ns, _, h => by
    cases h with
    | cons h1 h2 => cases h1; rw [RpAll.ints_inv ns h2]; rfl
/-- plain data by the layer's own reading -/
theorem frz_sql {a : Addr} {xs : List V} (h : SqZ K H a xs) : SqL K H a xs := by
  rcases h with ⟨o, h⟩ | h
  · exact .inl (.inr ⟨o, h⟩)
  · exact .inr h
mutual
theorem Rp.dp : ∀ (d : PyData) (v : V), d.plain = true → Rp K H v d → Dp K H v d
  | .none, _, _, h => by cases h; exact .non
  | .bool b, _, _, h => by cases h; exact .bl b
  | .int i, _, _, h => by cases h; exact .int i
  | .str x, _, _, h => by cases h; exact .str x
  | .list ds, _, p, h => by
    cases h with
    | lst h1 h2 => exact .lst (frz_sql h1) (RpAll.dp ds _ (by simpa [PyData.plain] using p) h2)
  | .tuple ds, _, p, h => by
    cases h with
    | tup h1 h2 => exact .tup h1 (RpAll.dp ds _ (by simpa [PyData.plain] using p) h2)
  | .dict ds, _, p, _ => by simp [PyData.plain] at p
theorem RpAll.dp : ∀ (ds : List PyData) (vs : List V), PyData.plainAll ds = true → RpAll K H vs ds → DpAll K H vs ds
  | [], _, _, h => by cases h; exact .nil
  | d :: ds, _, p, h => by
    have p' : d.plain = true ∧ PyData.plainAll ds = true := by simpa [PyData.plainAll] using p
    cases h with
    | cons h1 h2 => exact .cons (Rp.dp d _ p'.1 h1) (RpAll.dp ds _ p'.2 h2)
end
end

/-! ### what can be looked at now: also a list, a dict that one's own slot holds -/
inductive Pk (K : PySem.W.Frag) (H : Hp) : V → PyData → Prop
  | sh {v : V} {d : PyData} : Rp K H v d → Pk K H v d
  | lst {a : Addr} {xs : List V} {ds : List PyData} : H a = some (.lst xs) → RpAll K H xs ds → Pk K H (.ref a) (.list ds)
  | dk {a : Addr} {kvs : List (Key × V)} {ds : List (PyData × PyData)} : H a = some (.dK kvs) → RpKv K H kvs ds → Pk K H (.ref a) (.dict ds)
section
variable {K : PySem.W.Frag} {H H' : Hp}
theorem Pk.dp {v : V} {d : PyData} (p : d.plain = true) (h : Pk K H v d) : Dp K H v d := by
  cases h with
  | sh h => exact Rp.dp _ _ p h
  | lst h1 h2 => exact .lst (.of h1) (RpAll.dp _ _ (by simpa [PyData.plain] using p) h2)
  | dk h1 h2 => simp [PyData.plain] at p
theorem Pk.same {v : V} {d : PyData} (k : Same H H') (h : Pk K H v d) : Pk K H' v d := by
  cases h with
  | sh h => exact .sh (Rp.kp (.of_same k) _ _ h)
  | lst h1 h2 => exact .lst (k _ _ h1) (RpAll.kp (.of_same k) _ _ h2)
  | dk h1 h2 => exact .dk (k _ _ h1) (RpKv.kp (.of_same k) _ _ h2)
/-- a list that is looked at -/
theorem Pk.list {v : V} {ds : List PyData} (h : Pk K H v (.list ds)) : ∃ a xs, v = .ref a ∧ SqL K H a xs ∧ RpAll K H xs ds := by
  cases h with
  | sh h =>
    cases h with
    | lst h1 h2 => exact ⟨_, _, rfl, frz_sql h1, h2⟩
  | lst h1 h2 => exact ⟨_, _, rfl, .of h1, h2⟩
theorem Pk.tuple {v : V} {ds : List PyData} (h : Pk K H v (.tuple ds)) : ∃ a xs, v = .ref a ∧ SqT K H a xs ∧ RpAll K H xs ds := by
  cases h with
  | sh h =>
    cases h with
    | tup h1 h2 => exact ⟨_, _, rfl, h1, h2⟩
theorem Pk.int {v : V} {i : Int} (h : Pk K H v (.int i)) : v = .int i := by cases h with | sh h => cases h; rfl
theorem Pk.bool {v : V} {b : Bool} (h : Pk K H v (.bool b)) : v = .bl b := by cases h with | sh h => cases h; rfl
theorem Pk.str {v : V} {x : Str} (h : Pk K H v (.str x)) : v = .str x := by cases h with | sh h => cases h; rfl
theorem Pk.none {v : V} (h : Pk K H v .none) : v = .non := by cases h with | sh h => cases h; rfl
end

/-! ### owners -/
/-- what a slot may own: the data at a value, by the addresses that are its own -/
structure OP where
  p : Hp → V → PyData → List Addr → Prop
  frame : ∀ {H H' : Hp} {v : V} {d : PyData} {F : List Addr}, p H v d F → (∀ b ∈ F, H' b = H b) → Kp H H' → p H' v d F
  live : ∀ {H : Hp} {v : V} {d : PyData} {F : List Addr}, p H v d F → ∀ b ∈ F, ∃ u, H b = some u ∧ fz u = false
inductive SK where
  | no
  | sh
  | ow (c : V → Prop) (o : OP)
section
variable (K : PySem.W.Frag)
def oLst : OP where
  p := fun H v d F => ∃ a xs ds, v = .ref a ∧ F = [a] ∧ d = .list ds ∧ H a = some (.lst xs) ∧ RpAll K H xs ds
  frame := by
    rintro H H' v d F ⟨a, xs, ds, rfl, rfl, rfl, h1, h2⟩ hF k
    exact ⟨a, xs, ds, rfl, rfl, rfl, (hF a (by simp)).trans h1, RpAll.kp k _ _ h2⟩
  live := by
    rintro H v d F ⟨a, xs, ds, rfl, rfl, rfl, h1, h2⟩ b hb
    rw [List.mem_singleton] at hb
    exact ⟨_, by rw [hb]; exact h1, rfl⟩
def oDk : OP where
  p := fun H v d F => ∃ a xs ds, v = .ref a ∧ F = [a] ∧ d = .dict ds ∧ H a = some (.dK xs) ∧ RpKv K H xs ds
  frame := by
    rintro H H' v d F ⟨a, xs, ds, rfl, rfl, rfl, h1, h2⟩ hF k
    exact ⟨a, xs, ds, rfl, rfl, rfl, (hF a (by simp)).trans h1, RpKv.kp k _ _ h2⟩
  live := by
    rintro H v d F ⟨a, xs, ds, rfl, rfl, rfl, h1, h2⟩ b hb
    rw [List.mem_singleton] at hb
    exact ⟨_, by rw [hb]; exact h1, rfl⟩

/-! ### the frame -/
def SlotOk (k : SK) (x : Option (Option V)) (d : Option PyData) (F : List Addr) (H : Hp) : Prop :=
  match k with
  | .no => True
  | .sh => ∃ v e, x = some (some v) ∧ d = some e ∧ Rp K H v e
  | .ow c o => ∃ v e, x = some (some v) ∧ d = some e ∧ c v ∧ o.p H v e F
/-- the addresses that the slots own -/
def Own (κ : List SK) (G : Nat → List Addr) (b : Addr) : Prop := ∃ i c o, κ[i]? = some (.ow c o) ∧ b ∈ G i
structure FR (κ : List SK) (ρ : Ev) (σ : St) (H : Hp) (G : Nat → List Addr) : Prop where
  l1 : κ.length = σ.length
  l2 : ρ.length = σ.length
  ok : ∀ i k, κ[i]? = some k → SlotOk K k σ[i]? ρ[i]? (G i) H
  dj : ∀ i j c o c' o', κ[i]? = some (.ow c o) → κ[j]? = some (.ow c' o') → ∀ b, b ∈ G i → b ∈ G j → i = j
end
/-- all but what is owned is kept; what is owned behind is owned ahead, or new -/
structure Rel (H : Hp) (S : Addr → Prop) (H' : Hp) (S' : Addr → Prop) : Prop where
  keep : ∀ b u, H b = some u → ¬ S b → H' b = some u
  new : ∀ b, S' b → S b ∨ H b = none
  non : ∀ b, H' b = none → H b = none
theorem Same.non {H H' : Hp} (k : Same H H') {b : Addr} (h : H' b = none) : H b = none := by
  cases e : H b with
  | none => rfl
  | some u => rw [k b u e] at h; cases h
theorem Rel.refl (H : Hp) (S : Addr → Prop) : Rel H S H S := ⟨fun _ _ h _ => h, fun _ h => .inl h, fun _ h => h⟩
theorem Rel.trans {H H1 H2 : Hp} {S S1 S2 : Addr → Prop} (a : Rel H S H1 S1) (b : Rel H1 S1 H2 S2) : Rel H S H2 S2 := by
  refine ⟨fun c u h n => b.keep c u (a.keep c u h n) fun z => ?_, fun c z => ?_, fun c z => a.non c (b.non c z)⟩
  · rcases a.new c z with z | z
    · exact n z
    · rw [h] at z; cases z
  · rcases b.new c z with z | z
    · exact a.new c z
    · exact .inr (a.non c z)
theorem Rel.of_same {H H' : Hp} {S : Addr → Prop} (k : Same H H') : Rel H S H' S := ⟨fun b u h _ => k b u h, fun _ h => .inl h, fun _ h => Same.non k h⟩
theorem Rel.sub {H H' : Hp} {S S' T : Addr → Prop} (a : Rel H S H' S') (h : ∀ b, T b → S' b) : Rel H S H' T := ⟨a.keep, fun b z => a.new b (h b z), a.non⟩
section
variable {K : PySem.W.Frag} {κ : List SK} {ρ : Ev} {σ : St} {H H' : Hp} {G : Nat → List Addr}
theorem FR.live (f : FR K κ ρ σ H G) {b : Addr} (h : Own κ G b) : ∃ u, H b = some u ∧ fz u = false := by
  obtain ⟨i, c, o, e, hb⟩ := h
  obtain ⟨v, d, _, _, _, hp⟩ := f.ok i _ e
  exact o.live hp b hb
theorem FR.kp (f : FR K κ ρ σ H G) {S' : Addr → Prop} (r : Rel H (Own κ G) H' S') : Kp H H' := fun b o h z => r.keep b o h fun q => by
  obtain ⟨u, e, n⟩ := f.live q
  rw [h] at e; cases e
  rw [z] at n; cases n
theorem FR.same (f : FR K κ ρ σ H G) (k : Same H H') : FR K κ ρ σ H' G := by
  refine ⟨f.l1, f.l2, fun i s e => ?_, f.dj⟩
  have h := f.ok i s e
  cases s with
  | no => trivial
  | sh =>
    obtain ⟨v, d, e1, e2, h1⟩ := h
    exact ⟨v, d, e1, e2, Rp.kp (.of_same k) _ _ h1⟩
  | ow c o =>
    obtain ⟨v, d, e1, e2, h0, h1⟩ := h
    refine ⟨v, d, e1, e2, h0, o.frame h1 (fun b hb => ?_) (.of_same k)⟩
    obtain ⟨u, e3, _⟩ := o.live h1 b hb
    rw [e3]
    exact k b u e3
end
end G

/-! G1: the judgements and the rules of expressions. -/
namespace G
open PySem PySem.Spec PyProof.Rows
open L2 hiding St Inv Binds

/-! ### results -/
inductive RK where
  | sh
  | pk
  | ow (o : OP)
def ResOk (K : PySem.W.Frag) (k : RK) (H : Hp) (v : V) (d : PyData) (F : List Addr) : Prop :=
  match k with
  | .sh => Rp K H v d ∧ F = []
  | .pk => Pk K H v d ∧ F = []
  | .ow o => o.p H v d F
/-- an exception as data: its class's name, and its one field -/
def ExcOk (K : PySem.W.Frag) (mg : Str → Option Value) (c : Str) (p : PyData) (cls : Value) (dd : Option Addr) (H : Hp) : Prop :=
  mg c = some cls ∧ match p with
  | .tuple [.str f, d] => ∃ a fs v, dd = some a ∧ H a = some (.xd fs) ∧ fs.lookup f = some v ∧ Rp K H v d
  | _ => True
/-- what is wanted behind data -/
def AftE (K : PySem.W.Frag) (mg : Str → Option Value) (κ : List SK) (W : WX) (pu : Bool) (rk : RK) (σ : St) (H : Hp) (G : Nat → List Addr) (Q : VK) : RS PyData → Prop
  | .ok d ρ' => ∀ v H' G' F, FR K κ ρ' σ H' G' → Rel H (Own κ G) H' (Own κ G') → (pu = true → Same H H') → ResOk K rk H' v d F → (∀ b ∈ F, (Own κ G b ∨ H b = none) ∧ ¬ Own κ G' b) → Q v H'
  | .ex c p ρ' => ∀ cls dd H' G', ExcOk K mg c p cls dd H' → FR K κ ρ' σ H' G' → Rel H (Own κ G) H' (Own κ G') → W cls dd σ H'
  | .bad => False
def tE (K : PySem.W.Frag) (mg : Str → Option Value) (κ : List SK) (W : WX) (pu : Bool) (rk : RK) (f : M PyData) : TE := fun σ H Q => ∃ ρ G, FR K κ ρ σ H G ∧ AftE K mg κ W pu rk σ H G Q (f ρ)
def AftT (K : PySem.W.Frag) (mg : Str → Option Value) (κ : List SK) (W : WX) (pu : Bool) (σ : St) (H : Hp) (G : Nat → List Addr) (Q : Bool → Hp → Prop) : RS Bool → Prop
  | .ok b ρ' => ∀ H' G', FR K κ ρ' σ H' G' → Rel H (Own κ G) H' (Own κ G') → (pu = true → Same H H') → Q b H'
  | .ex c p ρ' => ∀ cls dd H' G', ExcOk K mg c p cls dd H' → FR K κ ρ' σ H' G' → Rel H (Own κ G) H' (Own κ G') → W cls dd σ H'
  | .bad => False
def tT (K : PySem.W.Frag) (mg : Str → Option Value) (κ : List SK) (W : WX) (pu : Bool) (f : M Bool) : TT := fun σ H Q => ∃ ρ G, FR K κ ρ σ H G ∧ AftT K mg κ W pu σ H G Q (f ρ)
inductive ResAll (K : PySem.W.Frag) : List RK → Hp → List V → List PyData → Prop
  | nil {H : Hp} : ResAll K [] H [] []
  | cons {k : RK} {ks : List RK} {H : Hp} {v : V} {vs : List V} {d : PyData} {ds : List PyData} : ResOk K k H v d [] → ResAll K ks H vs ds → ResAll K (k :: ks) H (v :: vs) (d :: ds)
def AftA (K : PySem.W.Frag) (mg : Str → Option Value) (κ : List SK) (W : WX) (pu : Bool) (ks : List RK) (σ : St) (H : Hp) (G : Nat → List Addr) (Q : List V → Hp → Prop) : RS (List PyData) → Prop
  | .ok ds ρ' => ∀ vs H' G', FR K κ ρ' σ H' G' → Rel H (Own κ G) H' (Own κ G') → (pu = true → Same H H') → ResAll K ks H' vs ds → Q vs H'
  | .ex c p ρ' => ∀ cls dd H' G', ExcOk K mg c p cls dd H' → FR K κ ρ' σ H' G' → Rel H (Own κ G) H' (Own κ G') → W cls dd σ H'
  | .bad => False
def tA (K : PySem.W.Frag) (mg : Str → Option Value) (κ : List SK) (W : WX) (pu : Bool) (ks : List RK) (f : M (List PyData)) : TA := fun σ H Q => ∃ ρ G, FR K κ ρ σ H G ∧ AftA K mg κ W pu ks σ H G Q (f ρ)
abbrev QE (X : Cx) (κ : List SK) (W : WX) (pu : Bool) (rk : RK) (e : Expr) (f : M PyData) : Prop := PE X e (tE X.K X.mg κ W pu rk f)
abbrev QT (X : Cx) (κ : List SK) (W : WX) (pu : Bool) (e : Expr) (f : M Bool) : Prop := PT X e (tT X.K X.mg κ W pu f)
abbrev QW (X : Cx) (κ : List SK) (W : WX) (pu : Bool) (e : Expr) (f : M Bool) : Prop := PW X e (tT X.K X.mg κ W pu f)
abbrev QA (X : Cx) (κ : List SK) (W : WX) (pu : Bool) (ks : List RK) (es : List Expr) (f : M (List PyData)) : Prop := PA X es (tA X.K X.mg κ W pu ks f)

theorem PE.imp {X : Cx} {e : Expr} {t t' : TE} (h : PE X e t) (i : ∀ σ H Q, t' σ H Q → t σ H Q) : PE X e t' := ⟨fun pins s σ H Q I q => h.run pins s σ H Q I (i σ H Q q)⟩
theorem PT.imp {X : Cx} {e : Expr} {t t' : TT} (h : PT X e t) (i : ∀ σ H Q, t' σ H Q → t σ H Q) : PT X e t' := ⟨fun pins s σ H Q I q => h.run pins s σ H Q I (i σ H Q q)⟩
theorem PW.imp {X : Cx} {e : Expr} {t t' : TT} (h : PW X e t) (i : ∀ σ H Q, t' σ H Q → t σ H Q) : PW X e t' := ⟨fun whole pins s σ H Q I q => h.run whole pins s σ H Q I (i σ H Q q)⟩
theorem PA.imp {X : Cx} {es : List Expr} {t t' : TA} (h : PA X es t) (i : ∀ σ H Q, t' σ H Q → t σ H Q) : PA X es t' := ⟨fun pos pins s σ H Q I q => h.run pos pins s σ H Q I (i σ H Q q)⟩
theorem PS.imp {X : Cx} {st : Stmt} {t t' : TS} (h : PS X st t) (i : ∀ D σ H, t' D σ H → t D σ H) : PS X st t' := ⟨fun pins s σ H D I q => h.run pins s σ H D I (i D σ H q)⟩
theorem PSs.imp {X : Cx} {st : List Stmt} {t t' : TS} (h : PSs X st t) (i : ∀ D σ H, t' D σ H → t D σ H) : PSs X st t' := ⟨fun pins s σ H D I q => h.run pins s σ H D I (i D σ H q)⟩

/-- a result outlives what is run behind it -/
def stb : RK → Bool → Bool
  | .pk, pu => pu
  | _, _ => true
section
variable {K : PySem.W.Frag} {H H' : Hp} {κ : List SK} {ρ : Ev} {σ : St} {G G' : Nat → List Addr} {rk : RK} {v : V} {d : PyData} {F : List Addr}
theorem ResOk.live (h : ResOk K rk H v d F) : ∀ b ∈ F, ∃ u, H b = some u ∧ fz u = false := by
  cases rk with
  | sh => obtain ⟨_, rfl⟩ := h; intro b hb; cases hb
  | pk => obtain ⟨_, rfl⟩ := h; intro b hb; cases hb
  | ow o => exact o.live h
theorem ResOk.after (f : FR K κ ρ σ H G) {S' : Addr → Prop} {pu : Bool} (hs : stb rk pu = true) (r : Rel H (Own κ G) H' S') (sm : pu = true → Same H H') (nf : ∀ b ∈ F, ¬ Own κ G b) (h : ResOk K rk H v d F) : ResOk K rk H' v d F := by
  cases rk with
  | sh => exact ⟨Rp.kp (f.kp r) _ _ h.1, h.2⟩
  | pk => exact ⟨h.1.same (sm hs), h.2⟩
  | ow o =>
    have h : o.p H v d F := h
    refine o.frame h (fun b hb => ?_) (f.kp r)
    obtain ⟨u, e, _⟩ := o.live h b hb
    rw [e]
    exact r.keep b u e (nf b hb)
/-- what can be looked at -/
def RK.looks (K : PySem.W.Frag) : RK → Prop
  | .sh => True
  | .pk => True
  | .ow o => ∀ H v d F, o.p H v d F → Pk K H v d
theorem ResOk.pk (hl : rk.looks K) (h : ResOk K rk H v d F) : Pk K H v d := by
  cases rk with
  | sh => exact .sh h.1
  | pk => exact h.1
  | ow o => exact hl H v d F h
theorem looks_lst : RK.looks K (.ow (oLst K)) := by
  rintro H v d F ⟨a, xs, ds, rfl, rfl, rfl, h1, h2⟩
  exact .lst h1 h2
theorem looks_dk : RK.looks K (.ow (oDk K)) := by
  rintro H v d F ⟨a, xs, ds, rfl, rfl, rfl, h1, h2⟩
  exact .dk h1 h2
theorem stb_true (k : RK) : stb k true = true := by cases k <;> rfl
end

/-! ### values: names, constants -/
def eK (d : PyData) : M PyData := fun ρ => .ok d ρ
def eV (i : Nat) : M PyData := fun ρ => match ρ[i]? with
  | some d => .ok d ρ
  | none => .bad
section
variable {X : Cx} {κ : List SK} {W : WX}
theorem val_ok {K : PySem.W.Frag} {mg : Str → Option Value} {rk : RK} {σ : St} {H H' : Hp} {Q : VK} {ρ : Ev} {G : Nat → List Addr} {d : PyData} {v : V} {F : List Addr} (f : FR K κ ρ σ H G) (h : AftE K mg κ W true rk σ H G Q (.ok d ρ)) (k : Same H H') (r : ResOk K rk H' v d F) (hF : ∀ b ∈ F, H b = none) : Q v H' :=
  h v H' G F (f.same k) (.of_same k) (fun _ => k) r fun b hb => ⟨.inr (hF b hb), fun q => by
    obtain ⟨u, e, _⟩ := f.live q
    rw [hF b hb] at e; cases e⟩
theorem val_sh {K : PySem.W.Frag} {mg : Str → Option Value} {σ : St} {H : Hp} {Q : VK} {ρ : Ev} {G : Nat → List Addr} {d : PyData} {v : V} (f : FR K κ ρ σ H G) (h : AftE K mg κ W true .sh σ H G Q (.ok d ρ)) (r : Rp K H v d) : Q v H :=
  val_ok f h (.refl H) ⟨r, rfl⟩ fun _ z => nomatch z
theorem qe_int {i : Int} {j pos} : QE X κ W true .sh (.Constant (.int i) j pos) (eK (.int i)) := PE.imp pe_int fun _ _ _ ⟨_, _, f, h⟩ => val_sh f h (.int i)
theorem qe_bl {b : Bool} {j pos} : QE X κ W true .sh (.Constant (.bool b) j pos) (eK (.bool b)) := PE.imp pe_bl fun _ _ _ ⟨_, _, f, h⟩ => val_sh f h (.bl b)
theorem qe_non {j pos} : QE X κ W true .sh (.Constant .none j pos) (eK .none) := PE.imp pe_non fun _ _ _ ⟨_, _, f, h⟩ => val_sh f h .non
theorem qe_str {x : Str} {j pos} : QE X κ W true .sh (.Constant (.str x) j pos) (eK (.str x)) := PE.imp pe_str fun _ _ _ ⟨_, _, f, h⟩ => val_sh f h (.str x)
/-- a module's constant -/
theorem qe_gint {x : Str} {i : Int} {pos : Pos} (hg : Gl X x) (hm : ∃ t, X.mg x = some (.int i t)) (hd : (x == ("__debug__" : Str)) = false := by decide) : QE X κ W true .sh (.Name x pos) (eK (.int i)) := by
  obtain ⟨t, hm⟩ := hm
  exact PE.imp (pe_glob (v := .int i) hg hm ⟨t, rfl⟩ hd) fun _ _ _ ⟨_, _, f, h⟩ => val_sh f h (.int i)
theorem qe_gstr {x : Str} {z : Str} {pos : Pos} (hg : Gl X x) (hm : ∃ t, X.mg x = some (.str z t)) (hd : (x == ("__debug__" : Str)) = false := by decide) : QE X κ W true .sh (.Name x pos) (eK (.str z)) := by
  obtain ⟨t, hm⟩ := hm
  exact PE.imp (pe_glob (v := .str z) hg hm ⟨t, rfl⟩ hd) fun _ _ _ ⟨_, _, f, h⟩ => val_sh f h (.str z)
theorem qe_v (i : Nat) {x : Str} {pos : Pos} (hk : κ[i]? = some .sh) (hp : PE X (.Name x pos) (tVar i)) : QE X κ W true .sh (.Name x pos) (eV i) := by
  refine PE.imp hp fun σ H Q ⟨ρ, G, f, h⟩ => ?_
  obtain ⟨v, d, e1, e2, r⟩ := f.ok i _ hk
  have h' : AftE X.K X.mg κ W true .sh σ H G Q (.ok d ρ) := by unfold eV at h; rw [e2] at h; exact h
  exact ⟨v, e1, val_sh f h' r⟩
/-- a slot that owns, looked at -/
theorem qe_vp (i : Nat) {x : Str} {pos : Pos} {c : V → Prop} {o : OP} (hk : κ[i]? = some (.ow c o)) (hl : RK.looks X.K (.ow o)) (hp : PE X (.Name x pos) (tVar i)) : QE X κ W true .pk (.Name x pos) (eV i) := by
  refine PE.imp hp fun σ H Q ⟨ρ, G, f, h⟩ => ?_
  obtain ⟨v, d, e1, e2, _, r⟩ := f.ok i _ hk
  have h' : AftE X.K X.mg κ W true .pk σ H G Q (.ok d ρ) := by unfold eV at h; rw [e2] at h; exact h
  exact ⟨v, e1, val_ok f h' (.refl H) ⟨hl H v d _ r, rfl⟩ fun _ z => nomatch z⟩
/-- what is fresh or kept may be looked at -/
theorem qe_pk {pu : Bool} {rk : RK} {e : Expr} {f : M PyData} (hl : rk.looks X.K) (h : QE X κ W pu rk e f) : QE X κ W pu .pk e f := by
  refine PE.imp h fun σ H Q ⟨ρ, G, fr, q⟩ => ⟨ρ, G, fr, ?_⟩
  cases e1 : f ρ with
  | ok d ρ' =>
    rw [e1] at q
    exact fun v H' G' F f' r s ok _ => q v H' G' [] f' r s ⟨ok.pk hl, rfl⟩ fun _ z => nomatch z
  | ex c p ρ' => rw [e1] at q; exact q
  | bad => rw [e1] at q; exact q
theorem qe_dirty {pu : Bool} {rk : RK} {e : Expr} {f : M PyData} (h : QE X κ W pu rk e f) : QE X κ W false rk e f := by
  refine PE.imp h fun σ H Q ⟨ρ, G, fr, q⟩ => ⟨ρ, G, fr, ?_⟩
  cases e1 : f ρ with
  | ok d ρ' =>
    rw [e1] at q
    exact fun v H' G' F f' r s => q v H' G' F f' r fun z => nomatch z
  | ex c p ρ' => rw [e1] at q; exact q
  | bad => rw [e1] at q; exact q

/-! ### two in a row -/
/-- behind a, b runs: the value-level step is given both -/
def eBin (g : PyData → PyData → Option PyData) (fa fb : M PyData) : M PyData := fun ρ => match fa ρ with
  | .ok d ρ1 => (match fb ρ1 with
    | .ok e ρ2 => (match g d e with
      | some r => .ok r ρ2
      | none => .bad)
    | .ex c p ρ' => .ex c p ρ'
    | .bad => .bad)
  | .ex c p ρ' => .ex c p ρ'
  | .bad => .bad
/-- a step on two values, over data -/
def rD (K : PySem.W.Frag) (rk : RK) (g : PyData → PyData → Option PyData) : R2 := fun x y H Q => ∃ d e r, Pk K H x d ∧ Pk K H y e ∧ g d e = some r ∧ ∀ z H' F, Same H H' → ResOk K rk H' z r F → (∀ b ∈ F, H b = none) → Q z H'
theorem bin_ok {K : PySem.W.Frag} {mg : Str → Option Value} {ka kb rk : RK} {pa pb : Bool} {fa fb : M PyData} {g : PyData → PyData → Option PyData} (hs : stb ka pb = true) (la : ka.looks K) (lb : kb.looks K) {σ : St} {H : Hp} {Q : VK}
    (h : tE K mg κ W (pa && pb) rk (eBin g fa fb) σ H Q) : tOp (rD K rk g) (tE K mg κ W pa ka fa) (tE K mg κ W pb kb fb) σ H Q := by
  obtain ⟨ρ, G, f, q⟩ := h
  refine ⟨ρ, G, f, ?_⟩
  unfold eBin at q
  cases ea : fa ρ with
  | bad => rw [ea] at q; exact q
  | ex c p ρ' => rw [ea] at q; exact q
  | ok d ρ1 =>
    rw [ea] at q
    intro v1 H1 G1 F1 f1 r1 s1 ok1 n1
    refine ⟨ρ1, G1, f1, ?_⟩
    dsimp only at q
    cases eb : fb ρ1 with
    | bad => rw [eb] at q; exact q
    | ex c p ρ' => rw [eb] at q; exact fun cls dd H' G' x f' r' => q cls dd H' G' x f' (r1.trans r')
    | ok e ρ2 =>
      rw [eb] at q
      intro v2 H2 G2 F2 f2 r2 s2 ok2 n2
      dsimp only at q
      have ok1' := ok1.after f1 hs r2 s2 fun b hb => (n1 b hb).2
      cases eg : g d e with
      | none => rw [eg] at q; exact q.elim
      | some r =>
        rw [eg] at q
        refine ⟨d, e, r, ok1'.pk la, ok2.pk lb, eg, fun z H3 F k ok3 n3 => ?_⟩
        refine q z H3 G2 F (f2.same k) ((r1.trans r2).trans (.of_same k)) (fun hp => ?_) ok3 fun b hb => ⟨.inr (r1.non b (r2.non b (n3 b hb))), fun z => ?_⟩
        · rw [Bool.and_eq_true] at hp
          exact (s1 hp.1).trans ((s2 hp.2).trans k)
        · obtain ⟨u, e3, _⟩ := f2.live z
          rw [n3 b hb] at e3; cases e3
section
variable {pa pb : Bool} {ka kb rk : RK} {fa fb : M PyData} {g : PyData → PyData → Option PyData} {a b : Expr} {pos : Pos}
theorem qe_op {op : Operator} (ho : OpR X (binaryOp op) (rD X.K rk g)) (ha : QE X κ W pa ka a fa) (hb : QE X κ W pb kb b fb) (hs : stb ka pb = true := by rfl) (la : ka.looks X.K := by trivial) (lb : kb.looks X.K := by trivial) :
    QE X κ W (pa && pb) rk (.BinOp a op b pos) (eBin g fa fb) := PE.imp (pe_op ho ha hb) fun _ _ _ h => bin_ok hs la lb h
theorem qe_cmp {op : CmpOp} (ho : OpR X (compareOp op) (rD X.K rk g)) (ha : QE X κ W pa ka a fa) (hb : QE X κ W pb kb b fb) (hm : behindInMarks op b = false) (hs : stb ka pb = true := by rfl) (la : ka.looks X.K := by trivial) (lb : kb.looks X.K := by trivial) :
    QE X κ W (pa && pb) rk (.Compare a [op] [b] pos) (eBin g fa fb) := PE.imp (pe_cmpR ho ha hb hm) fun _ _ _ h => bin_ok hs la lb h
theorem qe_ix (ho : IxR X (rD X.K rk g)) (ha : QE X κ W pa ka a fa) (hb : QE X κ W pb kb b fb) (hp : PlainIx b) (hs : stb ka pb = true := by rfl) (la : ka.looks X.K := by trivial) (lb : kb.looks X.K := by trivial) :
    QE X κ W (pa && pb) rk (.Subscript a b pos) (eBin g fa fb) := PE.imp (pe_ix ho ha hb hp) fun _ _ _ h => bin_ok hs la lb h
end
/-! ### one -/
def eUn (g : PyData → Option PyData) (fa : M PyData) : M PyData := fun ρ => match fa ρ with
  | .ok d ρ1 => (match g d with
    | some r => .ok r ρ1
    | none => .bad)
  | .ex c p ρ' => .ex c p ρ'
  | .bad => .bad
/-- tests of a value -/
def eTst (g : PyData → Option Bool) (fa : M PyData) : M Bool := fun ρ => match fa ρ with
  | .ok d ρ1 => (match g d with
    | some r => .ok r ρ1
    | none => .bad)
  | .ex c p ρ' => .ex c p ρ'
  | .bad => .bad
def asB : PyData → Option Bool
  | .bool b => some b
  | _ => none
theorem tst_ok {K : PySem.W.Frag} {mg : Str → Option Value} {ka : RK} {pu : Bool} {fa : M PyData} {g : PyData → Option Bool} (la : ka.looks K) {σ : St} {H : Hp} {Q : Bool → Hp → Prop} {Q' : VK}
    (h : tT K mg κ W pu (eTst g fa) σ H Q) (hq : ∀ v d H' r, Pk K H' v d → g d = some r → Q r H' → Q' v H') : tE K mg κ W pu ka fa σ H Q' := by
  obtain ⟨ρ, G, f, q⟩ := h
  refine ⟨ρ, G, f, ?_⟩
  unfold eTst at q
  cases ea : fa ρ with
  | bad => rw [ea] at q; exact q
  | ex c p ρ' => rw [ea] at q; exact q
  | ok d ρ1 =>
    rw [ea] at q
    intro v1 H1 G1 F1 f1 r1 s1 ok1 n1
    dsimp only at q
    cases eg : g d with
    | none => rw [eg] at q; exact q.elim
    | some r =>
      rw [eg] at q
      exact hq v1 d H1 r (ok1.pk la) eg (q H1 G1 f1 r1 s1)
section
variable {pa pb pu : Bool} {ka kb rk : RK} {fa fb : M PyData} {g : PyData → PyData → Option PyData} {a b : Expr} {pos : Pos}
theorem asB_pk {K : PySem.W.Frag} {H : Hp} {v : V} {d : PyData} {r : Bool} (p : Pk K H v d) (e : asB d = some r) : v = .bl r := by
  cases d <;> simp only [asB] at e <;> cases e
  exact p.bool
/-- a comparison as a test -/
theorem qt_cmp {op : CmpOp} (ho : OpR X (compareOp op) (rD X.K .sh g)) (ha : QE X κ W pa ka a fa) (hb : QE X κ W pb kb b fb) (hm : behindInMarks op b = false) (hs : stb ka pb = true := by rfl) (la : ka.looks X.K := by trivial) (lb : kb.looks X.K := by trivial) :
    QT X κ W (pa && pb) (.Compare a [op] [b] pos) (eTst asB (eBin g fa fb)) :=
  PT.imp (pt_cmpR ho ha hb hm) fun _ _ _ h => bin_ok (rk := .sh) hs la lb (tst_ok (ka := .sh) trivial h fun _ _ _ r p e q => ⟨r, asB_pk p e, q⟩)
/-- any other expression whose value is a bool -/
theorem qt_val (ha : QE X κ W pu ka a fa) (la : ka.looks X.K := by trivial) (he : ∀ whole, isTrue a X.env whole = (do let v ← whole; standAt a.pos; holding [v] (truthy v)) := by intro _; rfl) : QT X κ W pu a (eTst asB fa) :=
  PT.imp (pt_val ha he) fun _ _ _ h => tst_ok la h fun _ _ _ r p e q => ⟨r, asB_pk p e, q⟩
end
/-! ### and, or, not -/
def bNot (f : M Bool) : M Bool := fun ρ => match f ρ with
  | .ok b ρ' => .ok (!b) ρ'
  | .ex c p ρ' => .ex c p ρ'
  | .bad => .bad
def bAnd (f g : M Bool) : M Bool := fun ρ => match f ρ with
  | .ok b ρ' => if b = true then g ρ' else .ok false ρ'
  | .ex c p ρ' => .ex c p ρ'
  | .bad => .bad
def bOr (f g : M Bool) : M Bool := fun ρ => match f ρ with
  | .ok b ρ' => if b = true then .ok true ρ' else g ρ'
  | .ex c p ρ' => .ex c p ρ'
  | .bad => .bad
section
variable {pa pb pu : Bool} {fa fb : M Bool} {a b : Expr} {rest : List Expr} {pos : Pos}
theorem qt_not (ha : QT X κ W pu a fa) : QT X κ W pu (.UnaryOp .Not a pos) (bNot fa) := by
  refine PT.imp (pt_not ha) fun σ H Q ⟨ρ, G, f, q⟩ => ⟨ρ, G, f, ?_⟩
  unfold bNot at q
  cases e : fa ρ with
  | bad => rw [e] at q; exact q
  | ex c p ρ' => rw [e] at q; exact q
  | ok b ρ1 => rw [e] at q; exact q
theorem aft_and {K : PySem.W.Frag} {mg : Str → Option Value} {σ : St} {H : Hp} {Q : Bool → Hp → Prop} (h : tT K mg κ W (pa && pb) (bAnd fa fb) σ H Q) : tAnd (tT K mg κ W pa fa) (tT K mg κ W pb fb) σ H Q := by
  obtain ⟨ρ, G, f, q⟩ := h
  refine ⟨ρ, G, f, ?_⟩
  unfold bAnd at q
  cases e : fa ρ with
  | bad => rw [e] at q; exact q
  | ex c p ρ' => rw [e] at q; exact q
  | ok c ρ1 =>
    rw [e] at q
    intro H1 G1 f1 r1 s1
    cases c with
    | false =>
      dsimp only at q
      rw [if_neg Bool.false_ne_true] at q ⊢
      exact q H1 G1 f1 r1 fun hp => s1 (Bool.and_eq_true_iff.mp hp).1
    | true =>
      dsimp only at q
      rw [if_pos rfl] at q ⊢
      refine ⟨ρ1, G1, f1, ?_⟩
      cases e2 : fb ρ1 with
      | bad => rw [e2] at q; exact q
      | ex c p ρ' => rw [e2] at q; exact fun cls dd H' G' x f' r' => q cls dd H' G' x f' (r1.trans r')
      | ok c2 ρ2 =>
        rw [e2] at q
        exact fun H2 G2 f2 r2 s2 => q H2 G2 f2 (r1.trans r2) fun hp => (s1 (Bool.and_eq_true_iff.mp hp).1).trans (s2 (Bool.and_eq_true_iff.mp hp).2)
theorem aft_or {K : PySem.W.Frag} {mg : Str → Option Value} {σ : St} {H : Hp} {Q : Bool → Hp → Prop} (h : tT K mg κ W (pa && pb) (bOr fa fb) σ H Q) : tOr (tT K mg κ W pa fa) (tT K mg κ W pb fb) σ H Q := by
  obtain ⟨ρ, G, f, q⟩ := h
  refine ⟨ρ, G, f, ?_⟩
  unfold bOr at q
  cases e : fa ρ with
  | bad => rw [e] at q; exact q
  | ex c p ρ' => rw [e] at q; exact q
  | ok c ρ1 =>
    rw [e] at q
    intro H1 G1 f1 r1 s1
    cases c with
    | true =>
      dsimp only at q
      rw [if_pos rfl] at q ⊢
      exact q H1 G1 f1 r1 fun hp => s1 (Bool.and_eq_true_iff.mp hp).1
    | false =>
      dsimp only at q
      rw [if_neg Bool.false_ne_true] at q ⊢
      refine ⟨ρ1, G1, f1, ?_⟩
      cases e2 : fb ρ1 with
      | bad => rw [e2] at q; exact q
      | ex c p ρ' => rw [e2] at q; exact fun cls dd H' G' x f' r' => q cls dd H' G' x f' (r1.trans r')
      | ok c2 ρ2 =>
        rw [e2] at q
        exact fun H2 G2 f2 r2 s2 => q H2 G2 f2 (r1.trans r2) fun hp => (s1 (Bool.and_eq_true_iff.mp hp).1).trans (s2 (Bool.and_eq_true_iff.mp hp).2)
theorem qw_and1 (ha : QT X κ W pu a fa) : QW X κ W pu (.BoolOp .And [a] pos) fa := pw_and1 ha
theorem qw_or1 (ha : QT X κ W pu a fa) : QW X κ W pu (.BoolOp .Or [a] pos) fa := pw_or1 ha
theorem qw_and (ha : QT X κ W pa a fa) (hb : QW X κ W pb (.BoolOp .And (b :: rest) pos) fb) : QW X κ W (pa && pb) (.BoolOp .And (a :: b :: rest) pos) (bAnd fa fb) := PW.imp (pw_and ha hb) fun _ _ _ h => aft_and h
theorem qw_or (ha : QT X κ W pa a fa) (hb : QW X κ W pb (.BoolOp .Or (b :: rest) pos) fb) : QW X κ W (pa && pb) (.BoolOp .Or (a :: b :: rest) pos) (bOr fa fb) := PW.imp (pw_or ha hb) fun _ _ _ h => aft_or h
theorem qt_w (h : QW X κ W pu a fa) : QT X κ W pu a fa := h.pt
end
end
end G

/-! G2: values by tests, chains, displays, arguments, calls of built-ins, slices. -/
namespace G
open PySem PySem.Spec PyProof.Rows
open L2 hiding St Inv Binds
section
variable {X : Cx} {κ : List SK} {W : WX}
/-! ### a and b, a or b, not a, as values (bools) -/
def eNot (fa : M PyData) : M PyData := eUn (fun d => (asB d).map fun b => .bool (!b)) fa
def eAnd (fa fb : M PyData) : M PyData := fun ρ => match fa ρ with
  | .ok d ρ1 => (match asB d with
    | some true => fb ρ1
    | some false => .ok (.bool false) ρ1
    | none => .bad)
  | .ex c p ρ' => .ex c p ρ'
  | .bad => .bad
def eOr (fa fb : M PyData) : M PyData := fun ρ => match fa ρ with
  | .ok d ρ1 => (match asB d with
    | some true => .ok (.bool true) ρ1
    | some false => fb ρ1
    | none => .bad)
  | .ex c p ρ' => .ex c p ρ'
  | .bad => .bad
def eIf (c : M Bool) (fa fb : M PyData) : M PyData := fun ρ => match c ρ with
  | .ok b ρ1 => if b = true then fa ρ1 else fb ρ1
  | .ex c p ρ' => .ex c p ρ'
  | .bad => .bad
/-- what follows a step, from the step's own start -/
theorem aftE_trans {K : PySem.W.Frag} {mg : Str → Option Value} {rk : RK} {pa pb : Bool} {σ : St} {H H1 : Hp} {G G1 : Nat → List Addr} {Q : VK} {r : RS PyData} (r1 : Rel H (Own κ G) H1 (Own κ G1)) (s1 : pa = true → Same H H1)
    (h : AftE K mg κ W (pa && pb) rk σ H G Q r) : AftE K mg κ W pb rk σ H1 G1 Q r := by
  cases r with
  | bad => exact h
  | ex c p ρ' => exact fun cls dd H' G' x f' r' => h cls dd H' G' x f' (r1.trans r')
  | ok d ρ' => exact fun v H2 G2 F f2 r2 s2 ok nf => h v H2 G2 F f2 (r1.trans r2) (fun hp => (s1 (Bool.and_eq_true_iff.mp hp).1).trans (s2 (Bool.and_eq_true_iff.mp hp).2)) ok fun b hb => ⟨(nf b hb).1.elim (r1.new b) fun z => .inr (r1.non b z), (nf b hb).2⟩
section
variable {pa pb pc pu : Bool} {ka kb kc rk : RK} {fa fb fc : M PyData} {ft : M Bool} {a b c : Expr} {rest : List Expr} {pos : Pos}
theorem qe_not (ha : QE X κ W pu ka a fa) (la : ka.looks X.K := by trivial) : QE X κ W pu .sh (.UnaryOp .Not a pos) (eNot fa) := by
  refine PE.imp (pe_not ha) fun σ H Q ⟨ρ, G, f, q⟩ => ⟨ρ, G, f, ?_⟩
  unfold eNot eUn at q
  cases e : fa ρ with
  | bad => rw [e] at q; exact q
  | ex c p ρ' => rw [e] at q; exact q
  | ok d ρ1 =>
    rw [e] at q
    intro v1 H1 G1 F1 f1 r1 s1 ok1 n1
    dsimp only at q
    cases eg : asB d with
    | none => rw [eg] at q; exact q.elim
    | some b =>
      rw [eg] at q
      exact ⟨b, asB_pk (ok1.pk la) eg, q _ H1 G1 [] f1 r1 s1 ⟨.bl _, rfl⟩ fun _ z => nomatch z⟩
theorem qe_and (ha : QE X κ W pa ka a fa) (hb : QE X κ W pb .sh (.BoolOp .And (b :: rest) pos) fb) (la : ka.looks X.K := by trivial) : QE X κ W (pa && pb) .sh (.BoolOp .And (a :: b :: rest) pos) (eAnd fa fb) := by
  refine PE.imp (pe_and ha hb) fun σ H Q ⟨ρ, G, f, q⟩ => ⟨ρ, G, f, ?_⟩
  unfold eAnd at q
  cases e : fa ρ with
  | bad => rw [e] at q; exact q
  | ex c p ρ' => rw [e] at q; exact q
  | ok d ρ1 =>
    rw [e] at q
    intro v1 H1 G1 F1 f1 r1 s1 ok1 n1
    dsimp only at q
    cases eg : asB d with
    | none => rw [eg] at q; exact q.elim
    | some b =>
      rw [eg] at q
      refine ⟨b, asB_pk (ok1.pk la) eg, ?_⟩
      cases b with
      | true =>
        dsimp only at q
        rw [if_pos rfl]
        exact ⟨ρ1, G1, f1, aftE_trans r1 s1 q⟩
      | false =>
        dsimp only at q
        rw [if_neg Bool.false_ne_true]
        exact q _ H1 G1 [] f1 r1 (fun hp => s1 (Bool.and_eq_true_iff.mp hp).1) ⟨.bl _, rfl⟩ fun _ z => nomatch z
theorem qe_or (ha : QE X κ W pa ka a fa) (hb : QE X κ W pb .sh (.BoolOp .Or (b :: rest) pos) fb) (la : ka.looks X.K := by trivial) : QE X κ W (pa && pb) .sh (.BoolOp .Or (a :: b :: rest) pos) (eOr fa fb) := by
  refine PE.imp (pe_or ha hb) fun σ H Q ⟨ρ, G, f, q⟩ => ⟨ρ, G, f, ?_⟩
  unfold eOr at q
  cases e : fa ρ with
  | bad => rw [e] at q; exact q
  | ex c p ρ' => rw [e] at q; exact q
  | ok d ρ1 =>
    rw [e] at q
    intro v1 H1 G1 F1 f1 r1 s1 ok1 n1
    dsimp only at q
    cases eg : asB d with
    | none => rw [eg] at q; exact q.elim
    | some b =>
      rw [eg] at q
      refine ⟨b, asB_pk (ok1.pk la) eg, ?_⟩
      cases b with
      | false =>
        dsimp only at q
        rw [if_neg Bool.false_ne_true]
        exact ⟨ρ1, G1, f1, aftE_trans r1 s1 q⟩
      | true =>
        dsimp only at q
        rw [if_pos rfl]
        exact q _ H1 G1 [] f1 r1 (fun hp => s1 (Bool.and_eq_true_iff.mp hp).1) ⟨.bl _, rfl⟩ fun _ z => nomatch z
theorem qe_one {op : BoolOp} (ha : QE X κ W pu rk a fa) : QE X κ W pu rk (.BoolOp op [a] pos) fa := pe_one ha
theorem qe_if (hc : QT X κ W pc c ft) (ha : QE X κ W pa rk a fa) (hb : QE X κ W pb rk b fb) : QE X κ W (pc && (pa && pb)) rk (.IfExp c a b pos) (eIf ft fa fb) := by
  refine PE.imp (pe_ifExp hc ha hb) fun σ H Q ⟨ρ, G, f, q⟩ => ⟨ρ, G, f, ?_⟩
  unfold eIf at q
  cases e : ft ρ with
  | bad => rw [e] at q; exact q
  | ex c p ρ' => rw [e] at q; exact q
  | ok d ρ1 =>
    rw [e] at q
    intro H1 G1 f1 r1 s1
    have q := aftE_trans r1 s1 q
    dsimp only at q
    cases d with
    | true =>
      rw [if_pos rfl] at q ⊢
      refine ⟨ρ1, G1, f1, ?_⟩
      cases e2 : fa ρ1 with
      | bad => rw [e2] at q; exact q
      | ex c p ρ' => rw [e2] at q; exact q
      | ok d ρ' =>
        rw [e2] at q
        exact fun v H2 G2 F f2 r2 s2 ok nf => q v H2 G2 F f2 r2 (fun hp => s2 (Bool.and_eq_true_iff.mp hp).1) ok nf
    | false =>
      rw [if_neg Bool.false_ne_true] at q ⊢
      refine ⟨ρ1, G1, f1, ?_⟩
      cases e2 : fb ρ1 with
      | bad => rw [e2] at q; exact q
      | ex c p ρ' => rw [e2] at q; exact q
      | ok d ρ' =>
        rw [e2] at q
        exact fun v H2 G2 F f2 r2 s2 ok nf => q v H2 G2 F f2 r2 (fun hp => s2 (Bool.and_eq_true_iff.mp hp).2) ok nf
end
theorem ResOk.pks {K : PySem.W.Frag} {H : Hp} {v : V} {d : PyData} {F : List Addr} (h : ResOk K .sh H v d F) : Pk K H v d := .sh h.1
/-! ### a op b op c -/
def eChn (g g' : PyData → PyData → Option PyData) (fa fb fc : M PyData) : M PyData := fun ρ => match fa ρ with
  | .ok d ρ1 => (match fb ρ1 with
    | .ok e ρ2 => (match (g d e).bind asB with
      | some true => (match fc ρ2 with
        | .ok i ρ3 => (match g' e i with
          | some r => .ok r ρ3
          | none => .bad)
        | .ex c p ρ' => .ex c p ρ'
        | .bad => .bad)
      | some false => .ok (.bool false) ρ2
      | none => .bad)
    | .ex c p ρ' => .ex c p ρ'
    | .bad => .bad)
  | .ex c p ρ' => .ex c p ρ'
  | .bad => .bad
theorem chn_ok {mg : Str → Option Value} {K : PySem.W.Frag} {pa pb pc : Bool} {fa fb fc : M PyData} {g g' : PyData → PyData → Option PyData} {σ : St} {H : Hp} {Q : VK}
    (h : tE K mg κ W (pa && (pb && pc)) .sh (eChn g g' fa fb fc) σ H Q) : tChain (rD K .sh g) (rD K .sh g') (tE K mg κ W pa .sh fa) (tE K mg κ W pb .sh fb) (tE K mg κ W pc .sh fc) σ H Q := by
  obtain ⟨ρ, G, f, q⟩ := h
  refine ⟨ρ, G, f, ?_⟩
  unfold eChn at q
  cases e : fa ρ with
  | bad => rw [e] at q; exact q
  | ex c p ρ' => rw [e] at q; exact q
  | ok d ρ1 =>
    rw [e] at q
    intro v1 H1 G1 F1 f1 r1 s1 ok1 n1
    refine ⟨ρ1, G1, f1, ?_⟩
    dsimp only at q
    have q := aftE_trans r1 s1 q
    cases e2 : fb ρ1 with
    | bad => rw [e2] at q; exact q
    | ex c p ρ' => rw [e2] at q; exact q
    | ok e' ρ2 =>
      rw [e2] at q
      intro v2 H2 G2 F2 f2 r2 s2 ok2 n2
      dsimp only at q
      have ok1' := ok1.after f1 rfl r2 s2 fun b hb => (n1 b hb).2
      have q := aftE_trans r2 s2 q
      cases eg : g d e' with
      | none => rw [eg] at q; exact q.elim
      | some r =>
        rw [eg] at q
        refine ⟨d, e', r, ok1'.pks, ok2.pks, eg, fun z H3 F k ok3 n3 => ?_⟩
        have q : AftE K mg κ W pc .sh σ H2 G2 Q (match asB r with
          | some true => (match fc ρ2 with
            | .ok i ρ3 => (match g' e' i with
              | some r => .ok r ρ3
              | none => .bad)
            | .ex c p ρ' => .ex c p ρ'
            | .bad => .bad)
          | some false => .ok (.bool false) ρ2
          | none => .bad) := q
        cases eb : asB r with
        | none => rw [eb] at q; exact q.elim
        | some b =>
          rw [eb] at q
          have ez : z = .bl b := asB_pk ok3.pks eb
          refine ⟨b, ez, ?_⟩
          have q := aftE_trans (pa := true) (Rel.of_same k : Rel H2 (Own κ G2) H3 (Own κ G2)) (fun _ => k) q
          cases b with
          | false =>
            rw [if_neg Bool.false_ne_true]
            exact q _ H3 G2 [] (f2.same k) (.refl ..) (fun _ => .refl _) ⟨.bl _, rfl⟩ fun _ z => nomatch z
          | true =>
            rw [if_pos rfl]
            refine ⟨ρ2, G2, f2.same k, ?_⟩
            dsimp only at q
            cases e3 : fc ρ2 with
            | bad => rw [e3] at q; exact q
            | ex c p ρ' => rw [e3] at q; exact q
            | ok i ρ3 =>
              rw [e3] at q
              intro v4 H4 G4 F4 f4 r4 s4 ok4 n4
              dsimp only at q
              have ok2' := (ok2.after (pu := true) (f2) rfl (.of_same k) (fun _ => k) fun b hb => (n2 b hb).2)
              have ok2'' := ok2'.after (f2.same k) rfl r4 s4 fun b hb => by
                obtain ⟨_, rfl⟩ := ok2
                cases hb
              have q := aftE_trans (pb := true) r4 s4 (by rw [Bool.and_true]; exact q)
              cases eg' : g' e' i with
              | none => rw [eg'] at q; exact q.elim
              | some r' =>
                rw [eg'] at q
                refine ⟨e', i, r', ok2''.pks, ok4.pks, eg', fun z H5 F k5 ok5 n5 => ?_⟩
                exact val_ok f4 q k5 ok5 n5
section
variable {pa pb pc : Bool} {fa fb fc : M PyData} {a b c : Expr} {pos : Pos} {g g' : PyData → PyData → Option PyData} {op op' : CmpOp}
theorem qe_chn (ho : OpR X (compareOp op) (rD X.K .sh g)) (ho' : OpR X (compareOp op') (rD X.K .sh g')) (ha : QE X κ W pa .sh a fa) (hb : QE X κ W pb .sh b fb) (hc : QE X κ W pc .sh c fc)
    (hm : lastMarks [op, op'] [b, c] = false := by with_unfolding_all rfl) : QE X κ W (pa && (pb && pc)) .sh (.Compare a [op, op'] [b, c] pos) (eChn g g' fa fb fc) := PE.imp (pe_chain ho ho' ha hb hc hm) fun _ _ _ h => chn_ok h
theorem qt_chn (ho : OpR X (compareOp op) (rD X.K .sh g)) (ho' : OpR X (compareOp op') (rD X.K .sh g')) (ha : QE X κ W pa .sh a fa) (hb : QE X κ W pb .sh b fb) (hc : QE X κ W pc .sh c fc)
    (hm : lastMarks [op, op'] [b, c] = false := by with_unfolding_all rfl) : QT X κ W (pa && (pb && pc)) (.Compare a [op, op'] [b, c] pos) (eTst asB (eChn g g' fa fb fc)) :=
  PT.imp (pt_chain ho ho' ha hb hc hm) fun _ _ _ h => chn_ok (tst_ok (ka := .sh) trivial h fun _ _ _ r p e q => ⟨r, asB_pk p e, q⟩)
end

/-! ### arguments -/
def aNil : M (List PyData) := fun ρ => .ok [] ρ
def aCons (fa : M PyData) (fs : M (List PyData)) : M (List PyData) := fun ρ => match fa ρ with
  | .ok d ρ1 => (match fs ρ1 with
    | .ok ds ρ2 => .ok (d :: ds) ρ2
    | .ex c p ρ' => .ex c p ρ'
    | .bad => .bad)
  | .ex c p ρ' => .ex c p ρ'
  | .bad => .bad
/-- never an owner's own -/
def RK.plain : RK → Bool
  | .ow _ => false
  | _ => true
theorem aftA_trans {K : PySem.W.Frag} {mg : Str → Option Value} {ks : List RK} {pa pb : Bool} {σ : St} {H H1 : Hp} {G G1 : Nat → List Addr} {Q : List V → Hp → Prop} {r : RS (List PyData)} (r1 : Rel H (Own κ G) H1 (Own κ G1)) (s1 : pa = true → Same H H1)
    (h : AftA K mg κ W (pa && pb) ks σ H G Q r) : AftA K mg κ W pb ks σ H1 G1 Q r := by
  cases r with
  | bad => exact h
  | ex c p ρ' => exact fun cls dd H' G' x f' r' => h cls dd H' G' x f' (r1.trans r')
  | ok d ρ' => exact fun v H2 G2 f2 r2 s2 ok => h v H2 G2 f2 (r1.trans r2) (fun hp => (s1 (Bool.and_eq_true_iff.mp hp).1).trans (s2 (Bool.and_eq_true_iff.mp hp).2)) ok
section
variable {pa pb pu : Bool} {ka : RK} {ks : List RK} {fa : M PyData} {fs : M (List PyData)} {a : Expr} {es : List Expr} {pos : Pos}
theorem qa_nil : QA X κ W true [] [] aNil := PA.imp pa_nil fun σ H Q ⟨ρ, G, f, q⟩ => q [] H G f (.refl ..) (fun _ => .refl _) .nil
theorem qa_cons (ha : QE X κ W pa ka a fa) (hs : QA X κ W pb ks es fs) (hst : stb ka pb = true := by rfl) (hp : ka.plain = true := by rfl) (he : starEach (a :: es) X.env = (false, eval a X.env) :: starEach es X.env := by rfl) : QA X κ W (pa && pb) (ka :: ks) (a :: es) (aCons fa fs) := by
  refine PA.imp (pa_cons ha hs he) fun σ H Q ⟨ρ, G, f, q⟩ => ⟨ρ, G, f, ?_⟩
  unfold aCons at q
  cases e : fa ρ with
  | bad => rw [e] at q; exact q
  | ex c p ρ' => rw [e] at q; exact q
  | ok d ρ1 =>
    rw [e] at q
    intro v1 H1 G1 F1 f1 r1 s1 ok1 n1
    refine ⟨ρ1, G1, f1, ?_⟩
    dsimp only at q
    have q := aftA_trans r1 s1 q
    cases e2 : fs ρ1 with
    | bad => rw [e2] at q; exact q
    | ex c p ρ' => rw [e2] at q; exact q
    | ok ds ρ2 =>
      rw [e2] at q
      intro vs H2 G2 f2 r2 s2 ok2
      have ok1' := ok1.after f1 hst r2 s2 fun b hb => (n1 b hb).2
      refine q _ H2 G2 f2 r2 s2 (.cons ?_ ok2)
      cases ka with
      | sh => exact ⟨ok1'.1, rfl⟩
      | pk => exact ⟨ok1'.1, rfl⟩
      | ow o => cases hp
end
theorem ResAll.rp {K : PySem.W.Frag} : ∀ {ks : List RK} {H : Hp} {vs : List V} {ds : List PyData}, (∀ k ∈ ks, k = .sh) → ResAll K ks H vs ds → RpAll K H vs ds
  | _, _, _, _, _, .nil => .nil
  | k :: ks, H, _, _, h, .cons r t => by
    cases h k List.mem_cons_self
    exact .cons r.1 (ResAll.rp (fun k hk => h k (List.mem_cons_of_mem _ hk)) t)

/-! ### displays -/
def eTup (fs : M (List PyData)) : M PyData := fun ρ => match fs ρ with
  | .ok ds ρ' => if ds.length ≤ 1000 then .ok (.tuple ds) ρ' else .bad
  | .ex c p ρ' => .ex c p ρ'
  | .bad => .bad
def eLst (fs : M (List PyData)) : M PyData := fun ρ => match fs ρ with
  | .ok ds ρ' => if ds.length ≤ 1000 then .ok (.list ds) ρ' else .bad
  | .ex c p ρ' => .ex c p ρ'
  | .bad => .bad
theorem line1000 {n : Nat} (h : n ≤ 1000) : n ≤ sizeLine := Nat.le_trans h (by decide)
theorem same_upd {H : Hp} {p : Addr} {o : HO} (h : H p = none) : Same H (upd H p o) := fun b u e => by rw [upd_ne (ne_of_none e h)]; exact e
section
variable {pu : Bool} {ks : List RK} {fs : M (List PyData)} {es : List Expr} {pos : Pos} {k0 : ExprContext}
theorem qe_tup {x1} (hs : QA X κ W pu ks es fs) (hk : ∀ k ∈ ks, k = .sh := by simp) : QE X κ W pu .sh (.Tuple es x1 pos) (eTup fs) := by
  refine PE.imp (pe_tup hs) fun σ H Q ⟨ρ, G, f, q⟩ => ⟨ρ, G, f, ?_⟩
  unfold eTup at q
  cases e : fs ρ with
  | bad => rw [e] at q; exact q
  | ex c p ρ' => rw [e] at q; exact q
  | ok ds ρ1 =>
    rw [e] at q
    intro vs H1 G1 f1 r1 s1 ok1
    dsimp only at q
    by_cases hl : ds.length ≤ 1000
    · rw [if_pos hl] at q
      have ra := ok1.rp hk
      refine ⟨by rw [ra.len]; exact line1000 hl, fun p hp => ?_⟩
      have sm := same_upd (o := .tup vs) hp
      refine q _ _ G1 [] (f1.same sm) (r1.trans (.of_same sm)) (fun hp => (s1 hp).trans sm) ⟨.tup (.of upd_same) (RpAll.kp (.of_same sm) _ _ ra), rfl⟩ fun _ z => nomatch z
    · rw [if_neg hl] at q; exact q.elim
theorem qe_lst (hs : QA X κ W pu ks es fs) (hk : ∀ k ∈ ks, k = .sh := by simp) : QE X κ W pu (.ow (oLst X.K)) (.List es pos) (eLst fs) := by
  refine PE.imp (pe_lst hs) fun σ H Q ⟨ρ, G, f, q⟩ => ⟨ρ, G, f, ?_⟩
  unfold eLst at q
  cases e : fs ρ with
  | bad => rw [e] at q; exact q
  | ex c p ρ' => rw [e] at q; exact q
  | ok ds ρ1 =>
    rw [e] at q
    intro vs H1 G1 f1 r1 s1 ok1
    dsimp only at q
    by_cases hl : ds.length ≤ 1000
    · rw [if_pos hl] at q
      have ra := ok1.rp hk
      refine ⟨by rw [ra.len]; exact line1000 hl, fun p hp => ?_⟩
      have sm := same_upd (o := .lst vs) hp
      refine q _ _ G1 [p] (f1.same sm) (r1.trans (.of_same sm)) (fun hp => (s1 hp).trans sm) ⟨p, vs, ds, rfl, rfl, rfl, upd_same, RpAll.kp (.of_same sm) _ _ ra⟩ fun b hb => ?_
      rw [List.mem_singleton] at hb
      subst hb
      refine ⟨.inr (r1.non b hp), fun z => ?_⟩
      obtain ⟨u, e, _⟩ := f1.live z
      rw [hp] at e; cases e
    · rw [if_neg hl] at q; exact q.elim
end

/-! ### a call of a built-in, over data -/
def rC (K : PySem.W.Frag) (ks : List RK) (rk : RK) (g : List PyData → Option PyData) : List V → Hp → VK → Prop := fun xs H Q => ∃ ds r, ResAll K ks H xs ds ∧ g ds = some r ∧ ∀ z H' F, Same H H' → ResOk K rk H' z r F → (∀ b ∈ F, H b = none) → Q z H'
def eCB (g : List PyData → Option PyData) (fs : M (List PyData)) : M PyData := fun ρ => match fs ρ with
  | .ok ds ρ' => (match g ds with
    | some r => .ok r ρ'
    | none => .bad)
  | .ex c p ρ' => .ex c p ρ'
  | .bad => .bad
theorem cb_ok {K : PySem.W.Frag} {mg : Str → Option Value} {ks : List RK} {rk : RK} {pu : Bool} {fs : M (List PyData)} {g : List PyData → Option PyData} {σ : St} {H : Hp} {Q : VK} (h : tE K mg κ W pu rk (eCB g fs) σ H Q) :
    tCB (rC K ks rk g) (tA K mg κ W pu ks fs) σ H Q := by
  obtain ⟨ρ, G, f, q⟩ := h
  refine ⟨ρ, G, f, ?_⟩
  unfold eCB at q
  cases e : fs ρ with
  | bad => rw [e] at q; exact q
  | ex c p ρ' => rw [e] at q; exact q
  | ok ds ρ1 =>
    rw [e] at q
    intro vs H1 G1 f1 r1 s1 ok1
    dsimp only at q
    cases eg : g ds with
    | none => rw [eg] at q; exact q.elim
    | some r =>
      rw [eg] at q
      refine ⟨ds, r, ok1, eg, fun z H2 F sm ok2 n2 => ?_⟩
      refine q z H2 G1 F (f1.same sm) (r1.trans (.of_same sm)) (fun hp => (s1 hp).trans sm) ok2 fun b hb => ⟨.inr (r1.non b (n2 b hb)), fun z => ?_⟩
      obtain ⟨u, e, _⟩ := f1.live z
      rw [n2 b hb] at e; cases e
section
variable {pu : Bool} {ks : List RK} {rk : RK} {fs : M (List PyData)} {g : List PyData → Option PyData} {e : Expr} {es : List Expr} {pos p : Pos} {x : Str} {id T : String}
theorem qe_callB (hc : CallR X (.builtin id) (rC X.K ks rk g)) (hg : Gl X x) (hm : X.mg x = none) (hv : bootBuiltins x = some (.builtin id)) (ha : QA X κ W pu ks (e :: es) fs) (hn : x ≠ "__name__" := by decide) (hdb : (x == ("__debug__" : Str)) = false := by decide)
    (he : starEach (e :: es) X.env = (false, eval e X.env) :: starEach es X.env := by rfl) (hpl : (backTo pos (starEach es X.env)).any (·.1) = false := by rfl) : QE X κ W pu rk (.Call (.Name x p) (e :: es) [] pos) (eCB g fs) :=
  PE.imp (pe_callB hc hg hm hv ha hn hdb he hpl) fun _ _ _ h => cb_ok h
theorem qe_callTy (hc : CallR X (.type T) (rC X.K ks rk g)) (hg : Gl X x) (hm : X.mg x = none) (hv : bootBuiltins x = some (.type T)) (ha : QA X κ W pu ks (e :: es) fs) (hn : x ≠ "__name__" := by decide) (hdb : (x == ("__debug__" : Str)) = false := by decide)
    (he : starEach (e :: es) X.env = (false, eval e X.env) :: starEach es X.env := by rfl) (hpl : (backTo pos (starEach es X.env)).any (·.1) = false := by rfl) : QE X κ W pu rk (.Call (.Name x p) (e :: es) [] pos) (eCB g fs) :=
  PE.imp (pe_callTy hc hg hm hv ha hn hdb he hpl) fun _ _ _ h => cb_ok h
end

/-! ### slices -/
def AftO (K : PySem.W.Frag) (mg : Str → Option Value) (κ : List SK) (W : WX) (pu : Bool) (σ : St) (H : Hp) (G : Nat → List Addr) (Q : Option Int → Hp → Prop) : RS (Option Int) → Prop
  | .ok o ρ' => ∀ H' G', FR K κ ρ' σ H' G' → Rel H (Own κ G) H' (Own κ G') → (pu = true → Same H H') → Q o H'
  | .ex c p ρ' => ∀ cls dd H' G', ExcOk K mg c p cls dd H' → FR K κ ρ' σ H' G' → Rel H (Own κ G) H' (Own κ G') → W cls dd σ H'
  | .bad => False
def tO (K : PySem.W.Frag) (mg : Str → Option Value) (κ : List SK) (W : WX) (pu : Bool) (f : M (Option Int)) : TO := fun σ H Q => ∃ ρ G, FR K κ ρ σ H G ∧ AftO K mg κ W pu σ H G Q (f ρ)
def oNone : M (Option Int) := fun ρ => .ok none ρ
def asI : PyData → Option Int
  | .int i => some i
  | _ => none
def oSome (fa : M PyData) : M (Option Int) := fun ρ => match fa ρ with
  | .ok d ρ1 => (match asI d with
    | some i => .ok (some i) ρ1
    | none => .bad)
  | .ex c p ρ' => .ex c p ρ'
  | .bad => .bad
abbrev QO (X : Cx) (κ : List SK) (W : WX) (pu : Bool) (e : Option Expr) (f : M (Option Int)) : Prop := PO X e (tO X.K X.mg κ W pu f)
theorem PO.imp {X : Cx} {e : Option Expr} {t t' : TO} (h : PO X e t) (i : ∀ σ H Q, t' σ H Q → t σ H Q) : PO X e t' := ⟨fun pins s σ H Q I q => h.run pins s σ H Q I (i σ H Q q)⟩
theorem aftO_trans {K : PySem.W.Frag} {mg : Str → Option Value} {pa pb : Bool} {σ : St} {H H1 : Hp} {G G1 : Nat → List Addr} {Q : Option Int → Hp → Prop} {r : RS (Option Int)} (r1 : Rel H (Own κ G) H1 (Own κ G1)) (s1 : pa = true → Same H H1)
    (h : AftO K mg κ W (pa && pb) σ H G Q r) : AftO K mg κ W pb σ H1 G1 Q r := by
  cases r with
  | bad => exact h
  | ex c p ρ' => exact fun cls dd H' G' x f' r' => h cls dd H' G' x f' (r1.trans r')
  | ok d ρ' => exact fun H2 G2 f2 r2 s2 => h H2 G2 f2 (r1.trans r2) fun hp => (s1 (Bool.and_eq_true_iff.mp hp).1).trans (s2 (Bool.and_eq_true_iff.mp hp).2)
theorem asI_pk {K : PySem.W.Frag} {H : Hp} {v : V} {d : PyData} {i : Int} (p : Pk K H v d) (e : asI d = some i) : v = .int i := by
  cases d <;> simp only [asI] at e <;> cases e
  exact p.int
theorem qo_none : QO X κ W true none oNone := PO.imp po_none fun σ H Q ⟨ρ, G, f, q⟩ => q H G f (.refl ..) fun _ => .refl _
theorem qo_some {pu : Bool} {ka : RK} {fa : M PyData} {a : Expr} (ha : QE X κ W pu ka a fa) (la : ka.looks X.K := by trivial) : QO X κ W pu (some a) (oSome fa) := by
  refine PO.imp (po_some ha) fun σ H Q ⟨ρ, G, f, q⟩ => ⟨ρ, G, f, ?_⟩
  unfold oSome at q
  cases e : fa ρ with
  | bad => rw [e] at q; exact q
  | ex c p ρ' => rw [e] at q; exact q
  | ok d ρ1 =>
    rw [e] at q
    intro v1 H1 G1 F1 f1 r1 s1 ok1 n1
    dsimp only at q
    cases eg : asI d with
    | none => rw [eg] at q; exact q.elim
    | some i =>
      rw [eg] at q
      exact ⟨i, asI_pk (ok1.pk la) eg, q H1 G1 f1 r1 s1⟩
def eSl (g : PyData → Option Int → Option Int → Option PyData) (fa : M PyData) (fl fu : M (Option Int)) : M PyData := fun ρ => match fa ρ with
  | .ok d ρ1 => (match fl ρ1 with
    | .ok l ρ2 => (match fu ρ2 with
      | .ok u ρ3 => (match g d l u with
        | some r => .ok r ρ3
        | none => .bad)
      | .ex c p ρ' => .ex c p ρ'
      | .bad => .bad)
    | .ex c p ρ' => .ex c p ρ'
    | .bad => .bad)
  | .ex c p ρ' => .ex c p ρ'
  | .bad => .bad
def rSl (K : PySem.W.Frag) (rk : RK) (g : PyData → Option Int → Option Int → Option PyData) : V → Option Int → Option Int → Hp → VK → Prop :=
  fun x l u H Q => ∃ d r, Pk K H x d ∧ g d l u = some r ∧ ∀ z H' F, Same H H' → ResOk K rk H' z r F → (∀ b ∈ F, H b = none) → Q z H'
theorem qe_sl {pa pl pu : Bool} {ka rk : RK} {fa : M PyData} {fl fu : M (Option Int)} {g : PyData → Option Int → Option Int → Option PyData} {a : Expr} {l u : Option Expr} {pos p2 : Pos} (hr : SlR X (rSl X.K rk g)) (ha : QE X κ W pa ka a fa) (hl : QO X κ W pl l fl) (hu : QO X κ W pu u fu)
    (hs : stb ka (pl && pu) = true := by rfl) (la : ka.looks X.K := by trivial) : QE X κ W (pa && (pl && pu)) rk (.Subscript a (.Slice l u none p2) pos) (eSl g fa fl fu) := by
  refine PE.imp (pe_slice hr ha hl hu) fun σ H Q ⟨ρ, G, f, q⟩ => ⟨ρ, G, f, ?_⟩
  unfold eSl at q
  cases e : fa ρ with
  | bad => rw [e] at q; exact q
  | ex c p ρ' => rw [e] at q; exact q
  | ok d ρ1 =>
    rw [e] at q
    intro v1 H1 G1 F1 f1 r1 s1 ok1 n1
    dsimp only at q
    refine ⟨ρ1, G1, f1, ?_⟩
    have q := aftE_trans r1 s1 q
    cases e2 : fl ρ1 with
    | bad => rw [e2] at q; exact q
    | ex c p ρ' => rw [e2] at q; exact q
    | ok o ρ2 =>
      rw [e2] at q
      intro H2 G2 f2 r2 s2
      dsimp only at q
      refine ⟨ρ2, G2, f2, ?_⟩
      have q := aftE_trans r2 s2 q
      cases e3 : fu ρ2 with
      | bad => rw [e3] at q; exact q
      | ex c p ρ' => rw [e3] at q; exact q
      | ok o' ρ3 =>
        rw [e3] at q
        intro H3 G3 f3 r3 s3
        dsimp only at q
        have q := aftE_trans (pb := true) r3 s3 (by rw [Bool.and_true]; exact q)
        have ok3 := ok1.after f1 hs (r2.trans r3) (fun hp => (s2 (Bool.and_eq_true_iff.mp hp).1).trans (s3 (Bool.and_eq_true_iff.mp hp).2)) fun b hb => (n1 b hb).2
        cases eg : g d o o' with
        | none => rw [eg] at q; exact q.elim
        | some r =>
          rw [eg] at q
          exact ⟨d, r, ok3.pk la, eg, fun z H4 F sm ok4 n4 => val_ok f3 q sm ok4 n4⟩
end
end G

/-! G3: what operators and built-ins do to data. -/
namespace G
open PySem PySem.Spec PyProof.Rows
open L2 hiding St Inv Binds
section
variable {X : Cx} {K : PySem.W.Frag} {H : Hp}
theorem res_here {Q : VK} {rk : RK} {r : PyData} {z : V} (h : ∀ z H' F, Same H H' → ResOk K rk H' z r F → (∀ b ∈ F, H b = none) → Q z H') (hz : ResOk K rk H z r []) : Q z H := h z H [] (.refl H) hz fun _ z => nomatch z
theorem res_sh {Q : VK} {r : PyData} {z : V} (h : ∀ z H' F, Same H H' → ResOk K .sh H' z r F → (∀ b ∈ F, H b = none) → Q z H') (hz : Rp K H z r) : Q z H := res_here h ⟨hz, rfl⟩
theorem res_lst {Q : VK} {ds : List PyData} {xs : List V} {p : Addr} (h : ∀ z H' F, Same H H' → ResOk K (.ow (oLst K)) H' z (.list ds) F → (∀ b ∈ F, H b = none) → Q z H') (hp : H p = none) (hr : RpAll K H xs ds) : Q (.ref p) (upd H p (.lst xs)) :=
  h _ _ [p] (same_upd hp) ⟨p, xs, ds, rfl, rfl, rfl, upd_same, RpAll.kp (.of_same (same_upd hp)) _ _ hr⟩ fun b hb => by
    rw [List.mem_singleton] at hb
    rw [hb]; exact hp
theorem res_tup {Q : VK} {ds : List PyData} {xs : List V} {p : Addr} (h : ∀ z H' F, Same H H' → ResOk K .sh H' z (.tuple ds) F → (∀ b ∈ F, H b = none) → Q z H') (hp : H p = none) (hr : RpAll K H xs ds) : Q (.ref p) (upd H p (.tup xs)) :=
  h _ _ [] (same_upd hp) ⟨.tup (.of upd_same) (RpAll.kp (.of_same (same_upd hp)) _ _ hr), rfl⟩ fun _ z => nomatch z
theorem add_listW {prog : Program} {w : World} {A : Around} {E : Value → Shared → Prop} {s : Shared} {l b : Addr} {items items2 : Array Value} {n n2 : Nat} {dd dd2 : Option Addr} {sl sl2 : Array (Option Value)} {Q : Value → Shared → Prop}
    (hl : s.heap.get? l = some { cls := .type "list", dict := dd, data := .seq items n, slots := sl }) (hb : s.heap.get? b = some { cls := .type "list", dict := dd2, data := .seq items2 n2, slots := sl2 })
    (h : Q (.ref s.heap.objs.size) { s with heap := s.heap.push { cls := .type "list", data := .seq (items ++ items2) } }) (hsz : items.size + items2.size ≤ sizeLine) : wpAny (model prog w) A (binaryOp .Add (.ref l) (.ref b)) Q E s :=
  concat_meets ⟨_, hl, rfl⟩ ⟨_, hb, rfl⟩ noFill_list_add seq_list_add F.slot_list_add F.entry_list_add (F.args_list_add_2 _ _) (list_addW l b items items2 n n2 dd dd2 sl sl2 hsz) ⟨hl, hb, h⟩
theorem Pk.reads {pins : List (Addr × Obj)} {s : Shared} {σ : St} {v : V} {u : Value} {d : PyData} (I : Inv X pins σ H s) (p : d.plain = true) (h : Pk X.K H v d) (r : RelV v u) : ∃ as, Reads s.heap u d as := Dp.reads I d v u (h.dp p) r
theorem RpAll.reads {pins : List (Addr × Obj)} {s : Shared} {σ : St} {vs : List V} {us : List Value} {ds : List PyData} (I : Inv X pins σ H s) (p : PyData.plainAll ds = true) (h : RpAll X.K H vs ds) (r : Vals vs us) : ∃ as, ReadsAll s.heap us ds as := Dp.readsAll I ds vs us (RpAll.dp _ _ p h) r

/-! ### + -/
def dAdd : PyData → PyData → Option PyData
  | .int i, .int j => some (.int (i + j))
  | .str x, .str y => if x.length + y.length ≤ sizeLine then some (.str (x ++ y)) else none
  | .tuple xs, .tuple ys => if xs.length + ys.length ≤ sizeLine then some (.tuple (xs ++ ys)) else none
  | _, _ => none
theorem od_add : OpR X (binaryOp .Add) (rD X.K .sh dAdd) := by
  intro pins s σ H x y v u Q I rx ry h
  obtain ⟨d, e, r, px, py, eg, q⟩ := h
  unfold dAdd at eg
  split at eg
  · cases eg
    cases px.int
    cases py.int
    exact op_add pins s σ H _ _ v u Q I rx ry ⟨_, _, rfl, rfl, res_sh q (.int _)⟩
  · rename_i x0 y0
    split at eg
    · rename_i hl
      cases eg
      cases px.str
      cases py.str
      exact op_add_str pins s σ H _ _ v u Q I rx ry ⟨_, _, rfl, rfl, hl, res_sh q (.str _)⟩
    · cases eg
  · rename_i ds es
    split at eg
    · rename_i hl
      cases eg
      obtain ⟨a, xs, rfl, ha, ra⟩ := px.tuple
      obtain ⟨b, ys, rfl, hb, rb⟩ := py.tuple
      cases rx
      cases ry
      obtain ⟨its, r1, p1, _⟩ := I.tuple ha
      obtain ⟨its2, r2, p2, _⟩ := I.tuple hb
      by_cases hx : xs = []
      · subst hx
        cases ra
        cases r1
        rw [List.nil_append] at q
        exact cat_tup0 p1 p2 ⟨.ref b, H, I, rfl, res_sh q (.tup hb rb)⟩
      · refine op_catT pins s σ H (.ref a) (.ref b) (.ref a) (.ref b) Q I rfl rfl ⟨a, b, xs, ys, rfl, rfl, ha, hb, hx, by rw [ra.len, rb.len]; exact hl, fun e => ?_, fun _ p hp => res_tup q hp (ra.append rb)⟩
        subst e
        cases rb
        rw [List.append_nil] at q
        exact res_sh q (.tup ha ra)
    · cases eg
  · cases eg
def dAddL : PyData → PyData → Option PyData
  | .list xs, .list ys => if xs.length + ys.length ≤ sizeLine then some (.list (xs ++ ys)) else none
  | _, _ => none
theorem od_addL : OpR X (binaryOp .Add) (rD X.K (.ow (oLst X.K)) dAddL) := by
  intro pins s σ H x y v u Q I rx ry h
  obtain ⟨d, e, r, px, py, eg, q⟩ := h
  unfold dAddL at eg
  split at eg
  · rename_i ds es
    split at eg
    · rename_i hl
      cases eg
      obtain ⟨a, xs, rfl, ha, ra⟩ := px.list
      obtain ⟨b, ys, rfl, hb, rb⟩ := py.list
      cases rx
      cases ry
      obtain ⟨its, r, ⟨⟨c1, d1, t1, s1⟩, n, e, hc, hd, ht⟩, z⟩ := I.list ha
      obtain ⟨its2, r2, ⟨⟨c2, d2, t2, s2⟩, n2, e2, hc2, hd2, ht2⟩, z2⟩ := I.list hb
      dsimp only at hc ht hc2 ht2
      subst hc ht hc2 ht2
      have l1 := ra.len
      have l2 := rb.len
      have hl1 := r.length
      have hl2 := r2.length
      refine add_listW e e2 ?_ (by rw [List.size_toArray, List.size_toArray]; omega)
      have ea : its.toArray ++ its2.toArray = (its ++ its2).toArray := by simp
      rw [ea]
      exact ⟨.ref _, _, I.lnew (t' := s.toks) (r.append r2) (by rw [List.length_append]; omega), rfl, res_lst q I.fresh (ra.append rb)⟩
    · cases eg
  · cases eg

/-! ### -, *, //, % -/
def dSub : PyData → PyData → Option PyData
  | .int i, .int j => some (.int (i - j))
  | _, _ => none
theorem od_sub : OpR X (binaryOp .Sub) (rD X.K .sh dSub) := by
  intro pins s σ H x y v u Q I rx ry h
  obtain ⟨d, e, r, px, py, eg, q⟩ := h
  unfold dSub at eg
  split at eg
  · cases eg
    cases px.int
    cases py.int
    exact op_sub pins s σ H _ _ v u Q I rx ry ⟨_, _, rfl, rfl, res_sh q (.int _)⟩
  · cases eg
/-- a row, so often -/
def repD (n : Nat) (ds : List PyData) : List PyData := (List.replicate n ds).flatten
theorem RpAll.rep {xs : List V} {ds : List PyData} (h : RpAll K H xs ds) : ∀ n : Nat, RpAll K H (List.replicate n xs).flatten (repD n ds)
  | 0 => .nil
  | n + 1 => by
    unfold repD
    rw [List.replicate_succ, List.replicate_succ, List.flatten_cons, List.flatten_cons]
    exact h.append (RpAll.rep h n)
def dMul : PyData → PyData → Option PyData
  | .int i, .int j => if i.natAbs.log2 + j.natAbs.log2 < 100000000 then some (.int (i * j)) else none
  | .tuple xs, .int k => if xs.length ≤ 1000 ∧ k ≤ 1000 ∧ xs ≠ [] ∧ 2 ≤ k then some (.tuple (repD k.toNat xs)) else none
  | _, _ => none
theorem od_mul : OpR X (binaryOp .Mult) (rD X.K .sh dMul) := by
  intro pins s σ H x y v u Q I rx ry h
  obtain ⟨d, e, r, px, py, eg, q⟩ := h
  unfold dMul at eg
  split at eg
  · split at eg
    · rename_i hl
      cases eg
      cases px.int
      cases py.int
      exact op_mulX pins s σ H _ _ v u Q I rx ry ⟨_, _, rfl, rfl, mulx_ok (a := _ + 1) (b := _ + 1) Nat.lt_log2_self Nat.lt_log2_self (by omega), res_sh q (.int _)⟩
    · cases eg
  · split at eg
    · rename_i ds k hl
      cases eg
      obtain ⟨a, xs, rfl, ha, ra⟩ := px.tuple
      cases py.int
      have l1 := ra.len
      refine op_repT pins s σ H _ _ v u Q I rx ry ⟨a, k, xs, rfl, rfl, ha, fun e => ?_, by omega, by omega, by omega, fun p hp => res_tup q hp (ra.rep _)⟩
      subst e
      cases ra
      exact hl.2.2.1 rfl
    · cases eg
  · cases eg
def dMulL : PyData → PyData → Option PyData
  | .list xs, .int k => if -(2 ^ 63) ≤ k ∧ k < 2 ^ 63 ∧ xs.length * k.toNat ≤ sizeLine then some (.list (repD k.toNat xs)) else none
  | _, _ => none
def dDiv : PyData → PyData → Option PyData
  | .int i, .int j => if 0 < j ∧ j.natAbs.log2 < 9000 then some (.int (i / j)) else none
  | _, _ => none
theorem od_div : OpR X (binaryOp .FloorDiv) (rD X.K .sh dDiv) := by
  intro pins s σ H x y v u Q I rx ry h
  obtain ⟨d, e, r, px, py, eg, q⟩ := h
  unfold dDiv at eg
  split at eg
  · split at eg
    · rename_i hl
      cases eg
      cases px.int
      cases py.int
      exact op_fdivW pins s σ H _ _ v u Q I rx ry ⟨_, _, rfl, rfl, hl, res_sh q (.int _)⟩
    · cases eg
  · cases eg
def dMod : PyData → PyData → Option PyData
  | .int i, .int j => if 0 < j then some (.int (i % j)) else none
  | _, _ => none
theorem od_mod : OpR X (binaryOp .Mod) (rD X.K .sh dMod) := by
  intro pins s σ H x y v u Q I rx ry h
  obtain ⟨d, e, r, px, py, eg, q⟩ := h
  unfold dMod at eg
  split at eg
  · split at eg
    · rename_i hl
      cases eg
      cases px.int
      cases py.int
      exact op_mod pins s σ H _ _ v u Q I rx ry ⟨_, _, rfl, rfl, hl, res_sh q (.int _)⟩
    · cases eg
  · cases eg
def dPow : PyData → PyData → Option PyData
  | .int i, .int j => if 0 ≤ j ∧ j ≤ 1000000 ∧ i.natAbs < 2 ^ 64 then some (.int (i ^ j.toNat)) else none
  | _, _ => none
theorem od_pow : OpR X (binaryOp .Pow) (rD X.K .sh dPow) := by
  intro pins s σ H x y v u Q I rx ry h
  obtain ⟨d, e, r, px, py, eg, q⟩ := h
  unfold dPow at eg
  split at eg
  · split at eg
    · rename_i hl
      cases eg
      cases px.int
      cases py.int
      exact op_pow pins s σ H _ _ v u Q I rx ry ⟨_, _, rfl, rfl, hl, res_sh q (.int _)⟩
    · cases eg
  · cases eg

/-! ### ==, !=, <, .., in, is -/
/-- plain and not deep -/
def okD (d : PyData) : Bool := d.plain && decide (d.depth ≤ 60)
theorem okD_p {d : PyData} (h : okD d = true) : d.plain = true ∧ d.depth ≤ 60 := by
  unfold okD at h
  rw [Bool.and_eq_true, decide_eq_true_eq] at h
  exact h
def dEq (d e : PyData) : Option PyData := if okD d = true ∧ okD e = true then some (.bool (PyData.eqv d e)) else none
def dNe (d e : PyData) : Option PyData := if okD d = true ∧ okD e = true then some (.bool (!PyData.eqv d e)) else none
theorem od_eq (hu : X.A.units + 64 < cLine) : OpR X (compareOp .Eq) (rD X.K .sh dEq) := by
  intro pins s σ H x y v u Q I rx ry h
  obtain ⟨d, e, r, px, py, eg, q⟩ := h
  unfold dEq at eg
  split at eg
  · rename_i hl
    cases eg
    obtain ⟨h1, h2⟩ := okD_p hl.1
    obtain ⟨h3, h4⟩ := okD_p hl.2
    obtain ⟨as, r1⟩ := px.reads I h1 rx
    obtain ⟨bs, r2⟩ := py.reads I h3 ry
    exact SeqAt.eq_plain r1 r2 h1 h3 (by omega) ⟨.bl _, H, I, rfl, res_sh q (.bl _)⟩
  · cases eg
theorem od_ne (hu : X.A.units + 64 < cLine) : OpR X (compareOp .NotEq) (rD X.K .sh dNe) := by
  intro pins s σ H x y v u Q I rx ry h
  obtain ⟨d, e, r, px, py, eg, q⟩ := h
  unfold dNe at eg
  split at eg
  · rename_i hl
    cases eg
    obtain ⟨h1, h2⟩ := okD_p hl.1
    obtain ⟨h3, h4⟩ := okD_p hl.2
    obtain ⟨as, r1⟩ := px.reads I h1 rx
    obtain ⟨bs, r2⟩ := py.reads I h3 ry
    exact SeqAt.ne_plain r1 r2 h1 h3 (by omega) ⟨.bl _, H, I, rfl, res_sh q (.bl _)⟩
  · cases eg
def isNn : PyData → Bool
  | .none => false
  | _ => true
theorem isNn_p {d : PyData} (h : isNn d = true) : d ≠ .none := fun e => by rw [e] at h; cases h
def okLt (d e : PyData) : Bool := okD d && okD e && PySem.W.alike d e && isNn d
theorem okLt_p {d e : PyData} (h : okLt d e = true) : okD d = true ∧ okD e = true ∧ PySem.W.alike d e = true ∧ d ≠ .none := by
  unfold okLt at h
  simp only [Bool.and_eq_true] at h
  exact ⟨h.1.1.1, h.1.1.2, h.1.2, isNn_p h.2⟩
def dLt : PyData → PyData → Option PyData
  | .int i, .int j => some (.bool (decide (i < j)))
  | d, e => if okLt d e = true then some (.bool (PySem.W.dataLt d e)) else none
def dLe : PyData → PyData → Option PyData
  | .int i, .int j => some (.bool (decide (i ≤ j)))
  | d, e => if okLt d e = true then some (.bool (!PySem.W.dataLt e d)) else none
def dGt : PyData → PyData → Option PyData
  | .int i, .int j => some (.bool (decide (j < i)))
  | d, e => if okLt d e = true then some (.bool (PySem.W.dataLt e d)) else none
def dGe : PyData → PyData → Option PyData
  | .int i, .int j => some (.bool (decide (j ≤ i)))
  | d, e => if okLt d e = true then some (.bool (!PySem.W.dataLt d e)) else none
theorem od_lt (hu : X.A.units + 64 < cLine) : OpR X (compareOp .Lt) (rD X.K .sh dLt) := by
  intro pins s σ H x y v u Q I rx ry h
  obtain ⟨d, e, r, px, py, eg, q⟩ := h
  unfold dLt at eg
  split at eg
  · cases eg
    cases px.int
    cases py.int
    exact op_lt pins s σ H _ _ v u Q I rx ry ⟨_, _, rfl, rfl, res_sh q (.bl _)⟩
  · split at eg
    · rename_i hl
      cases eg
      obtain ⟨a1, a2, a3, a4⟩ := okLt_p hl
      obtain ⟨h1, h2⟩ := okD_p a1
      obtain ⟨h3, h4⟩ := okD_p a2
      obtain ⟨as, r1⟩ := px.reads I h1 rx
      obtain ⟨bs, r2⟩ := py.reads I h3 ry
      exact PySem.W.lt_data r1 r2 a3 a4 (by omega) ⟨.bl _, H, I, rfl, res_sh q (.bl _)⟩
    · cases eg
theorem od_le (hu : X.A.units + 64 < cLine) : OpR X (compareOp .LtE) (rD X.K .sh dLe) := by
  intro pins s σ H x y v u Q I rx ry h
  obtain ⟨d, e, r, px, py, eg, q⟩ := h
  unfold dLe at eg
  split at eg
  · cases eg
    cases px.int
    cases py.int
    exact op_le pins s σ H _ _ v u Q I rx ry ⟨_, _, rfl, rfl, res_sh q (.bl _)⟩
  · split at eg
    · rename_i hl
      cases eg
      obtain ⟨a1, a2, a3, a4⟩ := okLt_p hl
      obtain ⟨h1, h2⟩ := okD_p a1
      obtain ⟨h3, h4⟩ := okD_p a2
      obtain ⟨as, r1⟩ := px.reads I h1 rx
      obtain ⟨bs, r2⟩ := py.reads I h3 ry
      exact PySem.W.le_data r1 r2 a3 a4 (by omega) ⟨.bl _, H, I, rfl, res_sh q (.bl _)⟩
    · cases eg
theorem od_gt (hu : X.A.units + 64 < cLine) : OpR X (compareOp .Gt) (rD X.K .sh dGt) := by
  intro pins s σ H x y v u Q I rx ry h
  obtain ⟨d, e, r, px, py, eg, q⟩ := h
  unfold dGt at eg
  split at eg
  · cases eg
    cases px.int
    cases py.int
    exact op_gt pins s σ H _ _ v u Q I rx ry ⟨_, _, rfl, rfl, res_sh q (.bl _)⟩
  · split at eg
    · rename_i hl
      cases eg
      obtain ⟨a1, a2, a3, a4⟩ := okLt_p hl
      obtain ⟨h1, h2⟩ := okD_p a1
      obtain ⟨h3, h4⟩ := okD_p a2
      obtain ⟨as, r1⟩ := px.reads I h1 rx
      obtain ⟨bs, r2⟩ := py.reads I h3 ry
      exact PySem.W.gt_data r1 r2 a3 a4 (by omega) ⟨.bl _, H, I, rfl, res_sh q (.bl _)⟩
    · cases eg
theorem od_ge (hu : X.A.units + 64 < cLine) : OpR X (compareOp .GtE) (rD X.K .sh dGe) := by
  intro pins s σ H x y v u Q I rx ry h
  obtain ⟨d, e, r, px, py, eg, q⟩ := h
  unfold dGe at eg
  split at eg
  · cases eg
    cases px.int
    cases py.int
    exact op_ge pins s σ H _ _ v u Q I rx ry ⟨_, _, rfl, rfl, res_sh q (.bl _)⟩
  · split at eg
    · rename_i hl
      cases eg
      obtain ⟨a1, a2, a3, a4⟩ := okLt_p hl
      obtain ⟨h1, h2⟩ := okD_p a1
      obtain ⟨h3, h4⟩ := okD_p a2
      obtain ⟨as, r1⟩ := px.reads I h1 rx
      obtain ⟨bs, r2⟩ := py.reads I h3 ry
      exact PySem.W.ge_data r1 r2 a3 a4 (by omega) ⟨.bl _, H, I, rfl, res_sh q (.bl _)⟩
    · cases eg
def dIn : PyData → PyData → Option PyData
  | d, .list xs => if okD d = true ∧ okD (.list xs) = true then some (.bool (xs.any fun y => PyData.eqv y d)) else none
  | d, .tuple xs => if okD d = true ∧ okD (.tuple xs) = true then some (.bool (xs.any fun y => PyData.eqv y d)) else none
  | _, _ => none
def dNotIn : PyData → PyData → Option PyData
  | d, .list xs => if okD d = true ∧ okD (.list xs) = true then some (.bool (!xs.any fun y => PyData.eqv y d)) else none
  | d, .tuple xs => if okD d = true ∧ okD (.tuple xs) = true then some (.bool (!xs.any fun y => PyData.eqv y d)) else none
  | _, _ => none
theorem od_in (hu : X.A.units + 65 < cLine) : OpR X (compareOp .In) (rD X.K .sh dIn) := by
  intro pins s σ H x y v u Q I rx ry h
  obtain ⟨d, e, r, px, py, eg, q⟩ := h
  unfold dIn at eg
  split at eg
  · rename_i xs
    split at eg
    · rename_i hl
      cases eg
      obtain ⟨h1, h2⟩ := okD_p hl.1
      obtain ⟨h3, h4⟩ := okD_p hl.2
      obtain ⟨as, r1⟩ := px.reads I h1 rx
      obtain ⟨bs, r2⟩ := py.reads I h3 ry
      exact SeqAt.in_list_data r2 r1 (by simpa [PyData.plain] using h3) h1 (by omega) ⟨.bl _, H, I, rfl, res_sh q (.bl _)⟩
    · cases eg
  · rename_i xs
    split at eg
    · rename_i hl
      cases eg
      obtain ⟨h1, h2⟩ := okD_p hl.1
      obtain ⟨h3, h4⟩ := okD_p hl.2
      obtain ⟨as, r1⟩ := px.reads I h1 rx
      obtain ⟨bs, r2⟩ := py.reads I h3 ry
      exact SeqAt.in_tuple_data r2 r1 (by simpa [PyData.plain] using h3) h1 (by omega) ⟨.bl _, H, I, rfl, res_sh q (.bl _)⟩
    · cases eg
  · cases eg
theorem od_notIn (hu : X.A.units + 65 < cLine) : OpR X (compareOp .NotIn) (rD X.K .sh dNotIn) := by
  intro pins s σ H x y v u Q I rx ry h
  obtain ⟨d, e, r, px, py, eg, q⟩ := h
  unfold dNotIn at eg
  split at eg
  · rename_i xs
    split at eg
    · rename_i hl
      cases eg
      obtain ⟨h1, h2⟩ := okD_p hl.1
      obtain ⟨h3, h4⟩ := okD_p hl.2
      obtain ⟨as, r1⟩ := px.reads I h1 rx
      obtain ⟨bs, r2⟩ := py.reads I h3 ry
      exact SeqAt.notIn_list_data r2 r1 (by simpa [PyData.plain] using h3) h1 (by omega) ⟨.bl _, H, I, rfl, res_sh q (.bl _)⟩
    · cases eg
  · rename_i xs
    split at eg
    · rename_i hl
      cases eg
      obtain ⟨h1, h2⟩ := okD_p hl.1
      obtain ⟨h3, h4⟩ := okD_p hl.2
      obtain ⟨as, r1⟩ := px.reads I h1 rx
      obtain ⟨bs, r2⟩ := py.reads I h3 ry
      exact SeqAt.notIn_tuple_data r2 r1 (by simpa [PyData.plain] using h3) h1 (by omega) ⟨.bl _, H, I, rfl, res_sh q (.bl _)⟩
    · cases eg
  · cases eg
def isNo : PyData → Bool
  | .none => true
  | _ => false
def dIsN : PyData → PyData → Option PyData
  | d, .none => some (.bool (isNo d))
  | _, _ => none
def dNotN : PyData → PyData → Option PyData
  | d, .none => some (.bool (!isNo d))
  | _, _ => none
theorem isNo_pk {v : V} {d : PyData} (h : Pk K H v d) : decide (v = .non) = isNo d := by
  cases h with
  | sh h => cases h <;> rfl
  | lst _ _ => rfl
  | dk _ _ => rfl
theorem od_isN : OpR X (compareOp .Is) (rD X.K .sh dIsN) := by
  intro pins s σ H x y v u Q I rx ry h
  obtain ⟨d, e, r, px, py, eg, q⟩ := h
  unfold dIsN at eg
  split at eg
  · cases eg
    cases py.none
    exact op_isN pins s σ H _ _ v u Q I rx ry ⟨rfl, by rw [isNo_pk px]; exact res_sh q (.bl _)⟩
  · cases eg
theorem od_notN : OpR X (compareOp .IsNot) (rD X.K .sh dNotN) := by
  intro pins s σ H x y v u Q I rx ry h
  obtain ⟨d, e, r, px, py, eg, q⟩ := h
  unfold dNotN at eg
  split at eg
  · cases eg
    cases py.none
    exact op_notN pins s σ H _ _ v u Q I rx ry ⟨rfl, by rw [isNo_pk px]; exact res_sh q (.bl _)⟩
  · cases eg

/-! ### a[i] -/
def dIx : PyData → PyData → Option PyData
  | .list xs, .int i => atI xs i
  | .tuple xs, .int i => atI xs i
  | .str x, .int i => if x.length ≤ sizeLine then (atI x.cps.toList i).map fun c => .str ⟨#[c]⟩ else none
  | _, _ => none
theorem RpAll.at {xs : List V} {ds : List PyData} {i : Int} {d : PyData} (h : RpAll K H xs ds) (e : atI ds i = some d) : ∃ v, atI xs i = some v ∧ Rp K H v d := by
  unfold atI at e ⊢
  rw [h.len]
  cases q : ixN ds.length i with
  | none => rw [q] at e; cases e
  | some j =>
    rw [q] at e
    exact h.getD e
theorem ixd : IxR X (rD X.K .sh dIx) := by
  intro value slice pins s σ H x y v u Q I rx ry h hs
  obtain ⟨d, e, r, px, py, eg, q⟩ := h
  unfold dIx at eg
  split at eg
  · obtain ⟨a, xs, rfl, ha, ra⟩ := px.list
    cases py.int
    obtain ⟨z, hz, rz⟩ := ra.at eg
    exact ix_list value slice pins s σ H _ _ v u Q I rx ry ⟨a, xs, _, z, rfl, rfl, ha, hz, res_sh q rz⟩ hs
  · obtain ⟨a, xs, rfl, ha, ra⟩ := px.tuple
    cases py.int
    obtain ⟨z, hz, rz⟩ := ra.at eg
    exact ix_tup value slice pins s σ H _ _ v u Q I rx ry ⟨a, xs, _, z, rfl, rfl, ha, hz, res_sh q rz⟩ hs
  · split at eg
    · rename_i hl
      cases px.str
      cases py.int
      rename_i x0 i0
      cases ec : atI x0.cps.toList i0 with
      | none => rw [ec] at eg; cases eg
      | some c =>
        rw [ec] at eg
        cases eg
        exact ix_str value slice pins s σ H _ _ v u Q I rx ry ⟨x0, i0, c, rfl, rfl, hl, ec, res_sh q (.str _)⟩ hs
    · cases eg
  · cases eg
/-! ### slices -/
def cutD (ds : List PyData) (lo hi : Option Int) : List PyData := (ds.drop (HT.sIx ds.length 0 lo)).take (HT.sIx ds.length ds.length hi - HT.sIx ds.length 0 lo)
theorem RpAll.cut {xs : List V} {ds : List PyData} (h : RpAll K H xs ds) (lo hi : Option Int) : RpAll K H (cutV xs lo hi) (cutD ds lo hi) := by
  unfold cutV cutD
  rw [h.len]
  exact (h.drop _).take _
def dSl : PyData → Option Int → Option Int → Option PyData
  | .tuple xs, lo, hi => some (.tuple (cutD xs lo hi))
  | _, _, _ => none
def dSlL : PyData → Option Int → Option Int → Option PyData
  | .list xs, lo, hi => some (.list (cutD xs lo hi))
  | _, _, _ => none
theorem sld_l : SlR X (rSl X.K (.ow (oLst X.K)) dSlL) := by
  intro pins s σ H x v vl vu lo hi sl Q I rx hs pl pu h
  obtain ⟨d, r, px, eg, q⟩ := h
  unfold dSlL at eg
  split at eg
  · cases eg
    obtain ⟨a, xs, rfl, ha, ra⟩ := px.list
    exact sl_list pins s σ H _ v vl vu lo hi sl Q I rx hs pl pu ⟨a, xs, rfl, ha, fun p hp => res_lst q hp (ra.cut lo hi)⟩
  · cases eg
end
end G

set_option maxHeartbeats 4000000
/-! G4: slices of tuples, repeats, built-ins over data. -/
namespace G
open PySem PySem.Spec PyProof.Rows
open L2 hiding St Inv Binds
theorem sIx_whole {α : Type} (xs : List α) (lo hi : Option Int) (h : HT.sIx xs.length 0 lo = 0 ∧ HT.sIx xs.length xs.length hi = xs.length) : (xs.drop (HT.sIx xs.length 0 lo)).take (HT.sIx xs.length xs.length hi - HT.sIx xs.length 0 lo) = xs := by
  rw [h.1, h.2]; simp
section
variable {X : Cx} {K : PySem.W.Frag} {H : Hp}
theorem sld_t : SlR X (rSl X.K .sh dSl) := by
  intro pins s σ H x v vl vu lo hi sl Q I rx hs pl pu h
  obtain ⟨d, r, px, eg, q⟩ := h
  cases d with
  | tuple ds =>
    cases (show some (PyData.tuple (cutD ds lo hi)) = some r from eg)
    obtain ⟨a, xs, rfl, ha, ra⟩ := px.tuple
    refine sl_tupA pins s σ H _ v vl vu lo hi sl Q I rx hs pl pu ⟨a, xs, rfl, ha, fun hw => ?_, fun _ p hp => res_tup q hp (ra.cut lo hi)⟩
    rw [ra.len] at hw
    have e : cutD ds lo hi = ds := sIx_whole ds lo hi hw
    rw [e] at q
    exact res_sh q (.tup ha ra)
  | _ => cases (show none = some r from eg)
end

/-! ### a tuple, once or not at all -/
section
open PySem.AutoSeq1 (wpAny_loadPart')
theorem tuple_mul1 (l : Addr) (items : Array Value) (n : Nat) (dd : Option Addr) (sl : Array (Option Value)) (x : Int) (u : Tok) (c0 : (decide (x < -(2 ^ 63)) || decide (x ≥ 2 ^ 63)) = false) (c1 : (items.isEmpty || x == 1) = true) :
    Meets (Builtin.«tuple.__mul__» ⟨[.ref l, .int x u], []⟩) (fun _ R s => s.heap.get? l = some { cls := .type "tuple", dict := dd, data := .seq items n, slots := sl } ∧ R (.ok (.ret (Value.ref l))) s) :=
  .of_wp fun prog w A R s h => by
    obtain ⟨hp, g, d, tk, os⟩ := s
    obtain ⟨hl, h⟩ := h
    have f1 := AutoSeq1.idx_int
    wp_walk using wpAny_loadPart' hl
    repeat (first
      | (refine wpAny_ite_false (decide_eq_false (by rw [c0]; exact Bool.false_ne_true)) ?_; wp_walk using wpAny_loadPart' hl)
      | (refine wpAny_ite_true (decide_eq_true (by rw [c1])) ?_; wp_walk using wpAny_loadPart' hl))
    exact ⟨_, rfl, h⟩
theorem tuple_mul0 (l : Addr) (items : Array Value) (n : Nat) (dd : Option Addr) (sl : Array (Option Value)) (x : Int) (u : Tok) (c0 : (decide (x < -(2 ^ 63)) || decide (x ≥ 2 ^ 63)) = false) (c1 : (items.isEmpty || x == 1) = false) (c2 : (decide (x ≤ 0) || items.isEmpty) = true) :
    Meets (Builtin.«tuple.__mul__» ⟨[.ref l, .int x u], []⟩) (fun _ R s => s.heap.get? l = some { cls := .type "tuple", dict := dd, data := .seq items n, slots := sl } ∧
      R (.ok (.ret (Value.ref s.heap.objs.size))) { s with heap := s.heap.push { cls := Value.type "tuple", data := Data.seq #[] }, toks := s.toks }) :=
  .of_wp fun prog w A R s h => by
    obtain ⟨hp, g, d, tk, os⟩ := s
    obtain ⟨hl, h⟩ := h
    have f1 := AutoSeq1.idx_int
    wp_walk using wpAny_loadPart' hl
    repeat (first
      | (refine wpAny_ite_false (decide_eq_false (by rw [c0]; exact Bool.false_ne_true)) ?_; wp_walk using wpAny_loadPart' hl)
      | (refine wpAny_ite_false (decide_eq_false (by rw [c1]; exact Bool.false_ne_true)) ?_; wp_walk using wpAny_loadPart' hl)
      | (refine wpAny_ite_true (decide_eq_true (by rw [c2])) ?_; wp_walk using wpAny_loadPart' hl))
    exact ⟨_, rfl, h⟩
end
section
variable {X : Cx} {K : PySem.W.Frag} {H : Hp}
theorem flat_nil {α : Type} : ∀ n : Nat, (List.replicate n ([] : List α)).flatten = []
  | 0 => rfl
  | n + 1 => by rw [List.replicate_succ, List.flatten_cons, flat_nil n]; rfl
def dRepT : PyData → PyData → Option PyData
  | .tuple xs, .int k => if xs.length ≤ 1000 ∧ k ≤ 1000 ∧ -1000 ≤ k then some (.tuple (repD k.toNat xs)) else none
  | _, _ => none
theorem od_repT : OpR X (binaryOp .Mult) (rD X.K .sh dRepT) := by
  intro pins s σ H x y v u Q I rx ry h
  obtain ⟨d, e, r, px, py, eg, q⟩ := h
  unfold dRepT at eg
  split at eg
  · split at eg
    · rename_i ds k hl
      cases eg
      obtain ⟨a, xs, rfl, ha, ra⟩ := px.tuple
      cases py.int
      have l1 := ra.len
      by_cases h2 : 2 ≤ k ∧ xs ≠ []
      · exact op_repT pins s σ H _ _ v u Q I rx ry ⟨a, k, xs, rfl, rfl, ha, h2.2, by omega, by omega, by omega, fun p hp => res_tup q hp (ra.rep _)⟩
      · cases rx
        obtain ⟨t, rfl⟩ := ry
        obtain ⟨its, r, ⟨⟨cls, dd, data, sl⟩, ho, hc, n, hd⟩, hs⟩ := I.tuple ha
        simp only at hc hd
        subst hc hd
        have hle : its.length = xs.length := r.length.symm
        have c0 : (decide (k < -(2 ^ 63)) || decide (k ≥ 2 ^ 63)) = false := by
          rw [decide_eq_false (by omega), decide_eq_false (by omega)] <;> rfl
        by_cases h1 : (its.toArray.isEmpty || k == 1) = true
        · refine wpAny_binaryOp_repeat_ref (T := "tuple") (U := "int") (by decide) ⟨_, ho, rfl⟩ (fun s' => typeIs_int s' k t) noFill_tuple_mul F.fills_int_mul F.slot_int_rmul repeat_tuple F.slot_int_index.lookup
            (call_meets F.slot_int_rmul (typeIs_int s k t) F.entry_int_rmul (F.args_int_rmul_2 _ _) (int_rmul_tuple k t a its.toArray n dd sl)
              ⟨ho, rfl, ⟨_, ho, rfl⟩, call_meets F.slot_tuple_mul ⟨_, ho, rfl⟩ F.entry_tuple_mul (F.args_tuple_mul_2 _ _) (tuple_mul1 a its.toArray n dd sl k t c0 h1) ⟨ho, ?_⟩⟩)
          refine ⟨.ref a, H, I, rfl, res_sh q ?_⟩
          have e : repD k.toNat ds = ds := by
            rw [Bool.or_eq_true] at h1
            rcases h1 with h1 | h1
            · have : its = [] := by simpa using h1
              have : ds = [] := by
                cases ds with
                | nil => rfl
                | cons d ds =>
                  have e0 : xs.length = 0 := by rw [← hle, this]; rfl
                  rw [e0] at l1
                  simp at l1
              rw [this]
              exact flat_nil _
            · have : k = 1 := by simpa using h1
              rw [this]
              show (List.replicate 1 ds).flatten = ds
              simp
          rw [e]
          exact .tup ha ra
        · have h1' : (its.toArray.isEmpty || k == 1) = false := by simpa using h1
          have hne : its ≠ [] := fun e => by rw [e] at h1'; simp at h1'
          have hk1 : k ≠ 1 := fun e => by rw [e] at h1'; simp at h1'
          have hk : k ≤ 0 := by
            have : xs ≠ [] := fun e => hne (List.eq_nil_of_length_eq_zero (by rw [hle, e]; rfl))
            have : ¬ 2 ≤ k := fun z => h2 ⟨z, this⟩
            omega
          refine wpAny_binaryOp_repeat_ref (T := "tuple") (U := "int") (by decide) ⟨_, ho, rfl⟩ (fun s' => typeIs_int s' k t) noFill_tuple_mul F.fills_int_mul F.slot_int_rmul repeat_tuple F.slot_int_index.lookup
            (call_meets F.slot_int_rmul (typeIs_int s k t) F.entry_int_rmul (F.args_int_rmul_2 _ _) (int_rmul_tuple k t a its.toArray n dd sl)
              ⟨ho, rfl, ⟨_, ho, rfl⟩, call_meets F.slot_tuple_mul ⟨_, ho, rfl⟩ F.entry_tuple_mul (F.args_tuple_mul_2 _ _) (tuple_mul0 a its.toArray n dd sl k t c0 h1' (by rw [decide_eq_true hk]; rfl)) ⟨ho, ?_⟩⟩)
          have e : repD k.toNat ds = [] := by
            rw [show k.toNat = 0 by omega]
            rfl
          rw [e] at q
          exact ⟨.ref s.heap.objs.size, _, I.laid (t' := s.toks) (o := .tup []) (fun b ob q => Heap.get?_push_of_some _ q) (Nat.le_refl _) ⟨Nat.zero_le _, [], .nil, IsTup.new _ _⟩, rfl, res_tup q I.fresh .nil⟩
    · cases eg
  · cases eg
/-! ### len, sum, list, tuple -/
def dLen : List PyData → Option PyData
  | [.list xs] => some (.int xs.length)
  | [.tuple xs] => some (.int xs.length)
  | [.str x] => if x.length ≤ sizeLine then some (.int x.length) else none
  | _ => none
theorem ResAll.one {k : RK} {xs : List V} {d : PyData} (h : ResAll K [k] H xs [d]) : ∃ x, xs = [x] ∧ ResOk K k H x d [] := by
  cases h with
  | cons h t => cases t; exact ⟨_, rfl, h⟩
theorem ResAll.two {k k' : RK} {xs : List V} {d e : PyData} (h : ResAll K [k, k'] H xs [d, e]) : ∃ x y, xs = [x, y] ∧ ResOk K k H x d [] ∧ ResOk K k' H y e [] := by
  cases h with
  | cons h t =>
    cases t with
    | cons h' t' => cases t'; exact ⟨_, _, rfl, h, h'⟩
theorem ResOk.pkk {k : RK} {v : V} {d : PyData} {F : List Addr} (h : ResOk K k H v d F) (hk : k.plain = true) : Pk K H v d := by
  cases k with
  | sh => exact .sh h.1
  | pk => exact h.1
  | ow o => cases hk
theorem cd_len {k : RK} (hk : k.plain = true := by rfl) : CallR X (.builtin "len") (rC X.K [k] .sh dLen) := by
  intro pins s σ H xs us Q I r h
  obtain ⟨ds, r0, ra, eg, q⟩ := h
  unfold dLen at eg
  split at eg
  · cases eg
    obtain ⟨x, rfl, h⟩ := ra.one
    obtain ⟨a, xs, rfl, ha, rl⟩ := (h.pkk hk).list
    rw [← rl.len] at q
    exact call_len pins s σ H _ us Q I r ⟨_, xs.length, rfl, .inl ⟨xs, ha, rfl⟩, res_sh q (.int _)⟩
  · cases eg
    obtain ⟨x, rfl, h⟩ := ra.one
    obtain ⟨a, xs, rfl, ha, rl⟩ := (h.pkk hk).tuple
    rw [← rl.len] at q
    exact call_len pins s σ H _ us Q I r ⟨_, xs.length, rfl, .inr ⟨xs, ha, rfl⟩, res_sh q (.int _)⟩
  · split at eg
    · rename_i hl
      cases eg
      obtain ⟨x, rfl, h⟩ := ra.one
      cases (h.pkk hk).str
      exact call_len pins s σ H _ us Q I r ⟨_, _, rfl, ⟨hl, rfl⟩, res_sh q (.int _)⟩
    · cases eg
  · cases eg
def asInts : List PyData → Option (List Int)
  | [] => some []
  | .int i :: r => (asInts r).map (i :: ·)
  | _ => none
theorem asInts_eq : ∀ {ds : List PyData} {ns : List Int}, asInts ds = some ns → ds = ns.map .int
  | [], ns, h => by cases h; rfl
  | d :: r, ns, h => by
    cases d with
    | int i =>
      have h : (asInts r).map (i :: ·) = some ns := h
      cases e : asInts r with
      | none => rw [e] at h; cases h
      | some ms =>
        rw [e] at h
        cases h
        rw [asInts_eq e]; rfl
    | _ => cases h
theorem asInts_map : ∀ ns : List Int, asInts (ns.map .int) = some ns
  | [] => rfl
  | n :: ns => by
    show (asInts (ns.map .int)).map (n :: ·) = _
    rw [asInts_map ns]; rfl
def dSum : List PyData → Option PyData
  | [.list xs] => (asInts xs).map fun ns => .int ns.sum
  | _ => none
theorem cd_sum (hc : X.calm = true) {k : RK} (hk : k.plain = true := by rfl) : CallR X (.builtin "sum") (rC X.K [k] .sh dSum) := by
  intro pins s σ H xs us Q I r h
  obtain ⟨ds, r0, ra, eg, q⟩ := h
  unfold dSum at eg
  split at eg
  · rename_i es
    cases e : asInts es with
    | none => rw [e] at eg; cases eg
    | some ns =>
      rw [e] at eg
      cases eg
      obtain ⟨x, rfl, h⟩ := ra.one
      rw [asInts_eq e] at h
      obtain ⟨a, xs, rfl, ha, rl⟩ := (h.pkk hk).list
      rw [RpAll.ints_inv _ rl] at ha
      exact cr_sum hc pins s σ H _ us Q I r ⟨a, ns, rfl, ha, res_sh q (.int _)⟩
  · cases eg
def dList : List PyData → Option PyData
  | [.list xs] => some (.list xs)
  | [.tuple xs] => some (.list xs)
  | _ => none
theorem cd_list {k : RK} (hk : k.plain = true := by rfl) : CallR X (.type "list") (rC X.K [k] (.ow (oLst X.K)) dList) := by
  intro pins s σ H xs us Q I r h
  obtain ⟨ds, r0, ra, eg, q⟩ := h
  unfold dList at eg
  split at eg
  · cases eg
    obtain ⟨x, rfl, h⟩ := ra.one
    obtain ⟨a, xs, rfl, ha, rl⟩ := (h.pkk hk).list
    exact call_list_of pins s σ H _ us Q I r ⟨a, xs, rfl, .inl ha, fun l hl => res_lst q hl rl⟩
  · cases eg
    obtain ⟨x, rfl, h⟩ := ra.one
    obtain ⟨a, xs, rfl, ha, rl⟩ := (h.pkk hk).tuple
    exact call_list_of pins s σ H _ us Q I r ⟨a, xs, rfl, .inr ha, fun l hl => res_lst q hl rl⟩
  · cases eg
def dTup : List PyData → Option PyData
  | [.list xs] => some (.tuple xs)
  | [.tuple xs] => some (.tuple xs)
  | _ => none
theorem cd_tup {k : RK} (hk : k.plain = true := by rfl) : CallR X (.type "tuple") (rC X.K [k] .sh dTup) := by
  intro pins s σ H xs us Q I r h
  obtain ⟨ds, r0, ra, eg, q⟩ := h
  unfold dTup at eg
  split at eg
  · cases eg
    obtain ⟨x, rfl, h⟩ := ra.one
    obtain ⟨a, xs, rfl, ha, rl⟩ := (h.pkk hk).list
    exact call_tuple_of pins s σ H _ us Q I r ⟨a, xs, rfl, .inl ⟨ha, fun l hl => res_tup q hl rl⟩⟩
  · cases eg
    obtain ⟨x, rfl, h⟩ := ra.one
    obtain ⟨a, xs, rfl, ha, rl⟩ := (h.pkk hk).tuple
    exact call_tuple_of pins s σ H _ us Q I r ⟨a, xs, rfl, .inr ⟨ha, res_sh q (.tup ha rl)⟩⟩
  · cases eg
/-! ### min, max -/
def likeAll (ds : List PyData) : Bool := (ds.all fun x => ds.all fun y => PySem.W.alike x y) && ds.all isNn
theorem likeAll_p {ds : List PyData} (h : likeAll ds = true) : PySem.W.AlikeAll ds := by
  unfold likeAll at h
  rw [Bool.and_eq_true, List.all_eq_true, List.all_eq_true] at h
  exact ⟨fun x hx y hy => List.all_eq_true.mp (h.1 x hx) y hy, fun x hx => isNn_p (h.2 x hx)⟩
def okS (ds : List PyData) : Bool := PyData.plainAll ds && decide (PyData.depthAll ds ≤ 60)
theorem okS_p {ds : List PyData} (h : okS ds = true) : PyData.plainAll ds = true ∧ PyData.depthAll ds ≤ 60 := by
  unfold okS at h
  rw [Bool.and_eq_true, decide_eq_true_eq] at h
  exact h
def dMin : List PyData → Option PyData
  | [.list (x :: xs)] => if okS (x :: xs) = true ∧ likeAll (x :: xs) = true then some (PySem.W.minD x xs) else none
  | [.tuple (x :: xs)] => if okS (x :: xs) = true ∧ likeAll (x :: xs) = true then some (PySem.W.minD x xs) else none
  | [.int i, .int j] => some (.int (if j < i then j else i))
  | _ => none
def dMax : List PyData → Option PyData
  | [.list (x :: xs)] => if okS (x :: xs) = true ∧ likeAll (x :: xs) = true then some (PySem.W.maxD x xs) else none
  | [.tuple (x :: xs)] => if okS (x :: xs) = true ∧ likeAll (x :: xs) = true then some (PySem.W.maxD x xs) else none
  | [.int i, .int j] => some (.int (if j > i then j else i))
  | _ => none
theorem plainAll_get : ∀ {ds : List PyData} {i : Nat} {d : PyData}, PyData.plainAll ds = true → ds[i]? = some d → d.plain = true
  | [], _, _, _, e => by simp at e
  | x :: r, 0, d, h, e => by
    have h' : x.plain = true ∧ PyData.plainAll r = true := by simpa [PyData.plainAll] using h
    simp at e; subst e; exact h'.1
  | x :: r, i + 1, d, h, e => by
    have h' : x.plain = true ∧ PyData.plainAll r = true := by simpa [PyData.plainAll] using h
    exact plainAll_get (i := i) h'.2 (by simpa using e)
/-- the item of a row of values that reads as some data is that data -/
theorem item_is {pins : List (Addr × Obj)} {s : Shared} {σ : St} {vs : List V} {us : List Value} {ds : List PyData} {i : Nat} {v : Value} {d : PyData} {h' : Heap} {tk : Nat} {bs : List Addr} (I : Inv X pins σ H s) (p : PyData.plainAll ds = true) (ra : RpAll X.K H vs ds) (r : Vals vs us)
    (e : us[i]? = some v) (hr : Reads h' v d bs) (k : ∀ b o, s.heap.get? b = some o → h'.get? b = some o) : ∃ x, RelV x v ∧ Rp X.K H x d := by
  have hl := r.length
  have hi : i < vs.length := by
    have := (List.getElem?_eq_some_iff.mp e).1
    omega
  obtain ⟨u, e1, rx⟩ := r.get (i := i) (x := vs[i]) (by simp [hi])
  rw [e] at e1; cases e1
  obtain ⟨d', e2, rp⟩ := ra.get (i := i) (v := vs[i]) (by simp [hi])
  have pd := plainAll_get p e2
  have I2 : Inv X pins σ H { s with heap := h', toks := tk } := I.kept (t' := tk) k
  obtain ⟨as, r2⟩ := Dp.reads I2 d' vs[i] v (Rp.dp _ _ pd rp) rx
  have := SeqAt.plain_unique d' d v as bs pd r2 hr
  subst this
  exact ⟨_, rx, rp⟩
theorem cd_min (hc : X.calm = true) (hu : X.A.units + 65 < cLine) {ks : List RK} (hk : ks.all RK.plain = true := by rfl) : CallR X (.builtin "min") (rC X.K ks .sh dMin) := by
  intro pins s σ H xs us Q I r h
  obtain ⟨ds, r0, ra, eg, q⟩ := h
  unfold dMin at eg
  split at eg
  · rename_i d es
    split at eg
    · rename_i hl
      cases eg
      obtain ⟨h1, h2⟩ := okS_p hl.1
      cases ra with
      | cons h t =>
        cases t
        rw [List.all_cons, Bool.and_eq_true] at hk
        obtain ⟨a, ys, rfl, ha, rl⟩ := (h.pkk hk.1).list
        obtain ⟨its, rv, hpl, _⟩ := I.list ha
        obtain ⟨u, rfl, ru⟩ := vals1 r
        cases ru
        obtain ⟨as, hr⟩ := rl.reads I h1 rv
        refine PySem.W.min_list_data (I.ok.hd hc) hpl.isList (by simpa using hr) (likeAll_p hl.2) (by omega) fun i v h' tk bs e rd kp => ?_
        obtain ⟨x, rx, rp⟩ := item_is (tk := tk) I h1 rl rv (by simpa using e) rd kp
        exact ⟨x, H, I.kept kp, rx, res_sh q rp⟩
    · cases eg
  · rename_i d es
    split at eg
    · rename_i hl
      cases eg
      obtain ⟨h1, h2⟩ := okS_p hl.1
      cases ra with
      | cons h t =>
        cases t
        rw [List.all_cons, Bool.and_eq_true] at hk
        obtain ⟨a, ys, rfl, ha, rl⟩ := (h.pkk hk.1).tuple
        obtain ⟨its, rv, hpl, _⟩ := I.tuple ha
        obtain ⟨u, rfl, ru⟩ := vals1 r
        cases ru
        obtain ⟨as, hr⟩ := rl.reads I h1 rv
        refine PySem.W.min_tuple_data (I.ok.hd hc) hpl (by simpa using hr) (likeAll_p hl.2) (by omega) fun i v h' tk bs e rd kp => ?_
        obtain ⟨x, rx, rp⟩ := item_is (tk := tk) I h1 rl rv (by simpa using e) rd kp
        exact ⟨x, H, I.kept kp, rx, res_sh q rp⟩
    · cases eg
  · cases eg
    cases ra with
    | cons h t =>
      cases t with
      | cons h' t' =>
        cases t'
        simp only [List.all_cons, Bool.and_eq_true] at hk
        cases (h.pkk hk.1).int
        cases (h'.pkk hk.2.1).int
        exact call_min2 hc pins s σ H _ us Q I r ⟨_, _, rfl, res_sh q (.int _)⟩
  · cases eg
theorem cd_max (hc : X.calm = true) (hu : X.A.units + 65 < cLine) {ks : List RK} (hk : ks.all RK.plain = true := by rfl) : CallR X (.builtin "max") (rC X.K ks .sh dMax) := by
  intro pins s σ H xs us Q I r h
  obtain ⟨ds, r0, ra, eg, q⟩ := h
  unfold dMax at eg
  split at eg
  · rename_i d es
    split at eg
    · rename_i hl
      cases eg
      obtain ⟨h1, h2⟩ := okS_p hl.1
      cases ra with
      | cons h t =>
        cases t
        rw [List.all_cons, Bool.and_eq_true] at hk
        obtain ⟨a, ys, rfl, ha, rl⟩ := (h.pkk hk.1).list
        obtain ⟨its, rv, hpl, _⟩ := I.list ha
        obtain ⟨u, rfl, ru⟩ := vals1 r
        cases ru
        obtain ⟨as, hr⟩ := rl.reads I h1 rv
        refine PySem.W.max_list_data (I.ok.hd hc) hpl.isList (by simpa using hr) (likeAll_p hl.2) (by omega) fun i v h' tk bs e rd kp => ?_
        obtain ⟨x, rx, rp⟩ := item_is (tk := tk) I h1 rl rv (by simpa using e) rd kp
        exact ⟨x, H, I.kept kp, rx, res_sh q rp⟩
    · cases eg
  · rename_i d es
    split at eg
    · rename_i hl
      cases eg
      obtain ⟨h1, h2⟩ := okS_p hl.1
      cases ra with
      | cons h t =>
        cases t
        rw [List.all_cons, Bool.and_eq_true] at hk
        obtain ⟨a, ys, rfl, ha, rl⟩ := (h.pkk hk.1).tuple
        obtain ⟨its, rv, hpl, _⟩ := I.tuple ha
        obtain ⟨u, rfl, ru⟩ := vals1 r
        cases ru
        obtain ⟨as, hr⟩ := rl.reads I h1 rv
        refine PySem.W.max_tuple_data (I.ok.hd hc) hpl (by simpa using hr) (likeAll_p hl.2) (by omega) fun i v h' tk bs e rd kp => ?_
        obtain ⟨x, rx, rp⟩ := item_is (tk := tk) I h1 rl rv (by simpa using e) rd kp
        exact ⟨x, H, I.kept kp, rx, res_sh q rp⟩
    · cases eg
  · cases eg
    cases ra with
    | cons h t =>
      cases t with
      | cons h' t' =>
        cases t'
        simp only [List.all_cons, Bool.and_eq_true] at hk
        cases (h.pkk hk.1).int
        cases (h'.pkk hk.2.1).int
        exact call_max2 hc pins s σ H _ us Q I r ⟨_, _, rfl, res_sh q (.int _)⟩
  · cases eg
end
end G

/-! G5: sorted, all, any, int, isinstance, repr. -/
namespace G
open PySem PySem.Spec PyProof.Rows
open L2 hiding St Inv Binds
/-! ### a plain sort that computes -/
def insD (x : PyData) : List PyData → List PyData
  | [] => [x]
  | y :: r => if PySem.W.dataLt y x = true then y :: insD x r else x :: y :: r
def srtD : List PyData → List PyData
  | [] => []
  | x :: r => insD x (srtD r)
abbrev leD : PyData → PyData → Bool := PySem.W.dataLe false (fun b : PyData => b)
theorem leD_total : PySem.W.TotalLe leD := PySem.W.sortLe_total (listOrd itemOrd) false PySem.W.keyToks
theorem leD_eq (a b : PyData) : leD a b = !PySem.W.dataLt b a := rfl
theorem mem_ins (x y : PyData) : ∀ l : List PyData, y ∈ insD x l ↔ y = x ∨ y ∈ l
  | [] => by simp [insD]
  | z :: r => by
    unfold insD
    split
    · rw [List.mem_cons, mem_ins x y r, List.mem_cons]
      constructor
      · rintro (h | h | h)
        · exact .inr (.inl h)
        · exact .inl h
        · exact .inr (.inr h)
      · rintro (h | h | h)
        · exact .inr (.inl h)
        · exact .inl h
        · exact .inr (.inr h)
    · simp
theorem ins_sorted (x : PyData) : ∀ l : List PyData, l.Pairwise (fun a b => leD a b = true) → (insD x l).Pairwise (fun a b => leD a b = true)
  | [], _ => List.pairwise_singleton ..
  | z :: r, h => by
    obtain ⟨h1, h2⟩ := List.pairwise_cons.mp h
    unfold insD
    split
    · rename_i hz
      refine List.pairwise_cons.mpr ⟨fun y hy => ?_, ins_sorted x r h2⟩
      rcases (mem_ins x y r).mp hy with rfl | hy
      · rcases leD_total.total z y with q | q
        · exact q
        · rw [leD_eq, hz] at q; cases q
      · exact h1 y hy
    · rename_i hz
      have q : leD x z = true := by
        rw [leD_eq]
        cases e : PySem.W.dataLt z x with
        | true => exact absurd e hz
        | false => rfl
      refine List.pairwise_cons.mpr ⟨fun y hy => ?_, h⟩
      rcases List.mem_cons.mp hy with rfl | hy
      · exact q
      · exact leD_total.trans _ _ _ q (h1 y hy)
theorem srt_sorted : ∀ l : List PyData, (srtD l).Pairwise (fun a b => leD a b = true)
  | [] => .nil
  | x :: r => ins_sorted x _ (srt_sorted r)
theorem ins_filter (c x : PyData) : ∀ l : List PyData, (insD x l).filter (PySem.W.sameRank leD c) = (x :: l).filter (PySem.W.sameRank leD c)
  | [] => rfl
  | z :: r => by
    unfold insD
    split
    · rename_i hz
      have ih := ins_filter c x r
      cases hx : PySem.W.sameRank leD c x with
      | false =>
        rw [List.filter_cons, ih, List.filter_cons (x := x) (xs := r), hx, List.filter_cons (x := x), hx, List.filter_cons (x := z)]
        simp
      | true =>
        have hzc : PySem.W.sameRank leD c z = false := by
          cases e : PySem.W.sameRank leD c z with
          | false => rfl
          | true =>
            unfold PySem.W.sameRank at hx e
            rw [Bool.and_eq_true] at hx e
            have := leD_total.trans _ _ _ hx.2 e.1
            rw [leD_eq, hz] at this
            cases this
        rw [List.filter_cons, hzc, ih, List.filter_cons (x := x) (xs := r), hx, List.filter_cons (x := x) (xs := z :: r), hx, List.filter_cons (x := z), hzc]
        simp
    · rfl
theorem srt_filter (c : PyData) : ∀ l : List PyData, (srtD l).filter (PySem.W.sameRank leD c) = l.filter (PySem.W.sameRank leD c)
  | [] => rfl
  | x :: r => by
    show (insD x (srtD r)).filter _ = _
    rw [ins_filter, List.filter_cons, List.filter_cons, srt_filter c r]
theorem srt_eq (l : List PyData) : srtD l = l.mergeSort leD := PySem.W.sort_unique leD_total (srt_sorted l) fun c => srt_filter c l

section
variable {X : Cx} {K : PySem.W.Frag} {H : Hp}
def isTup1 : PyData → Bool
  | .tuple (_ :: _) => true
  | _ => false
def isTup : PyData → Bool
  | .tuple _ => true
  | _ => false
def okSort (ds : List PyData) : Bool := okS ds && (ds.all fun x => ds.all fun y => PySem.W.alike x y) && (ds.all isTup1 || ds.all fun d => isNn d && !isTup d) && decide (ds.length ≤ sizeLine)
theorem okSort_p {ds : List PyData} (h : okSort ds = true) : okS ds = true ∧ PySem.W.AllAlike ds ∧ PySem.W.Sortable ds ∧ ds.length ≤ sizeLine := by
  unfold okSort at h
  simp only [Bool.and_eq_true, List.all_eq_true, Bool.or_eq_true, decide_eq_true_eq, Bool.not_eq_true'] at h
  refine ⟨h.1.1.1, fun d hd d' hd' => h.1.1.2 d hd d' hd', ?_, h.2⟩
  rcases h.1.2 with q | q
  · refine .inl fun d hd => ?_
    have := q d hd
    unfold isTup1 at this
    split at this
    · exact ⟨_, _, rfl⟩
    · cases this
  · refine .inr fun d hd => ⟨isNn_p (q d hd).1, fun xs e => ?_⟩
    have := (q d hd).2
    rw [e] at this
    cases this
def dSort : List PyData → Option PyData
  | [.list ds] => if okSort ds = true then some (.list (srtD ds)) else none
  | _ => none
theorem depth_mem : ∀ {ds : List PyData} {d : PyData}, d ∈ ds → d.depth ≤ PyData.depthAll ds
  | x :: r, d, h => by
    have e : PyData.depthAll (x :: r) = max x.depth (PyData.depthAll r) := by simp only [PyData.depthAll]
    rcases List.mem_cons.mp h with rfl | h
    · omega
    · have := depth_mem h
      omega
theorem each_of : ∀ {us : List Value} {vs : List V} {ds : List PyData}, Vals vs us → RpAll K H vs ds → PySem.W.EachIs (fun u d => ∃ x, RelV x u ∧ Rp K H x d) us ds
  | _, _, _, .nil, .nil => .nil
  | _, _, _, .cons r1 r2, .cons h t => .cons ⟨_, r1, h⟩ (each_of r2 t)
theorem each_back {us : List Value} {ds : List PyData} (h : PySem.W.EachIs (fun u d => ∃ x, RelV x u ∧ Rp K H x d) us ds) : ∃ vs, Vals vs us ∧ RpAll K H vs ds := by
  induction h with
  | nil => exact ⟨[], .nil, .nil⟩
  | cons h t ih =>
    obtain ⟨x, r, p⟩ := h
    obtain ⟨vs, r', p'⟩ := ih
    exact ⟨x :: vs, .cons r r', .cons p p'⟩
theorem each_reads {pins : List (Addr × Obj)} {s : Shared} {σ : St} (I : Inv X pins σ H s) : ∀ {us : List Value} {vs : List V} {ds : List PyData}, PyData.plainAll ds = true → Vals vs us → RpAll X.K H vs ds → PySem.W.EachIs (fun u d => ∃ as, Reads s.heap u d as) us ds
  | _, _, _, _, .nil, .nil => .nil
  | _, _, d :: ds, p, .cons r1 r2, .cons h t => by
    have p' : d.plain = true ∧ PyData.plainAll ds = true := by simpa [PyData.plainAll] using p
    exact .cons (Dp.reads I _ _ _ (Rp.dp _ _ p'.1 h) r1) (each_reads I p'.2 r2 t)
theorem cd_sort (hu : X.A.units + 65 < cLine) {k : RK} (hk : k.plain = true := by rfl) : CallR X (.builtin "sorted") (rC X.K [k] (.ow (oLst X.K)) dSort) := by
  intro pins s σ H xs us Q I r h
  obtain ⟨ds, r0, ra, eg, q⟩ := h
  unfold dSort at eg
  split at eg
  · rename_i es
    split at eg
    · rename_i hl
      cases eg
      obtain ⟨h1, h2, h3, h4⟩ := okSort_p hl
      obtain ⟨hp, hd⟩ := okS_p h1
      obtain ⟨x, rfl, h⟩ := ra.one
      obtain ⟨a, ys, rfl, ha, rl⟩ := (h.pkk hk).list
      obtain ⟨its, rv, hpl, _⟩ := I.list ha
      obtain ⟨u, rfl, ru⟩ := vals1 r
      cases ru
      have e1 : PySem.W.EachIs (fun u d => ∃ x, RelV x u ∧ Rp X.K H x d) its es := each_of rv rl
      have e2 := each_reads I hp rv rl
      have em : es.map (fun b : PyData => b) = es := List.map_id' es
      refine PySem.W.sorted_data (enc := fun b : PyData => b) hpl.isList e1 e2 (by rw [em]; exact h2) (by rw [em]; exact h3) h4 (fun b hb => by have := depth_mem hb; omega) fun out hlen hout => ?_
      rw [show (es.mergeSort (PySem.W.dataLe false fun b : PyData => b)) = srtD es from (srt_eq es).symm] at hout
      obtain ⟨vs, r3, p3⟩ := each_back hout
      obtain ⟨ep, he'⟩ := PyProof.Rows.sortedAll_at s.heap its out.toArray
      exact ⟨.ref _, upd H (s.heap.objs.size + 1) (.lst vs), I.laid (t' := s.toks) (fun _ _ => PyProof.Rows.sortedAll_old) (Nat.le_succ _) ⟨by rw [r3.length, hlen]; exact h4, out, ep, r3, he'⟩, rfl, res_lst q (I.hok.fresh (Nat.le_succ _)) p3⟩
    · cases eg
  · cases eg
/-! ### all, any of bools -/
def asBls : List PyData → Option (List Bool)
  | [] => some []
  | .bool b :: r => (asBls r).map (b :: ·)
  | _ => none
theorem asBls_rp : ∀ {ds : List PyData} {bs : List Bool} {vs : List V}, asBls ds = some bs → RpAll K H vs ds → vs = bs.map V.bl
  | [], bs, _, h, r => by cases h; cases r; rfl
  | d :: r, bs, _, h, rp => by
    cases d with
    | bool b =>
      have h : (asBls r).map (b :: ·) = some bs := h
      cases e : asBls r with
      | none => rw [e] at h; cases h
      | some ms =>
        rw [e] at h
        cases h
        cases rp with
        | cons h1 h2 =>
          cases h1
          rw [asBls_rp e h2]; rfl
    | _ => cases h
def dAll : List PyData → Option PyData
  | [.list xs] => (asBls xs).map fun bs => .bool (bs.all id)
  | _ => none
def dAny : List PyData → Option PyData
  | [.list xs] => (asBls xs).map fun bs => .bool (bs.any id)
  | _ => none
theorem cd_all (hc : X.calm = true) {k : RK} (hk : k.plain = true := by rfl) : CallR X (.builtin "all") (rC X.K [k] .sh dAll) := by
  intro pins s σ H xs us Q I r h
  obtain ⟨ds, r0, ra, eg, q⟩ := h
  unfold dAll at eg
  split at eg
  · rename_i es
    cases e : asBls es with
    | none => rw [e] at eg; cases eg
    | some bs =>
      rw [e] at eg
      cases eg
      obtain ⟨x, rfl, h⟩ := ra.one
      obtain ⟨a, xs, rfl, ha, rl⟩ := (h.pkk hk).list
      rw [asBls_rp e rl] at ha
      exact cr_all hc pins s σ H _ us Q I r ⟨a, bs, rfl, ha, res_sh q (.bl _)⟩
  · cases eg
theorem cd_any (hc : X.calm = true) {k : RK} (hk : k.plain = true := by rfl) : CallR X (.builtin "any") (rC X.K [k] .sh dAny) := by
  intro pins s σ H xs us Q I r h
  obtain ⟨ds, r0, ra, eg, q⟩ := h
  unfold dAny at eg
  split at eg
  · rename_i es
    cases e : asBls es with
    | none => rw [e] at eg; cases eg
    | some bs =>
      rw [e] at eg
      cases eg
      obtain ⟨x, rfl, h⟩ := ra.one
      obtain ⟨a, xs, rfl, ha, rl⟩ := (h.pkk hk).list
      rw [asBls_rp e rl] at ha
      exact cr_any hc pins s σ H _ us Q I r ⟨a, bs, rfl, ha, res_sh q (.bl _)⟩
  · cases eg
/-! ### int(x) -/
def dInt : List PyData → Option PyData
  | [.int i] => some (.int i)
  | [.bool b] => some (.int (if b then 1 else 0))
  | _ => none
theorem cd_int {k : RK} (hk : k.plain = true := by rfl) : CallR X (.type "int") (rC X.K [k] .sh dInt) := by
  intro pins s σ H xs us Q I r h
  obtain ⟨ds, r0, ra, eg, q⟩ := h
  unfold dInt at eg
  split at eg
  · cases eg
    obtain ⟨x, rfl, h⟩ := ra.one
    cases (h.pkk hk).int
    exact call_int1 pins s σ H _ us Q I r (.inl ⟨_, rfl, res_sh q (.int _)⟩)
  · cases eg
    obtain ⟨x, rfl, h⟩ := ra.one
    cases (h.pkk hk).bool
    exact call_int1 pins s σ H _ us Q I r (.inr ⟨_, rfl, res_sh q (.int _)⟩)
  · cases eg
/-! ### isinstance(x, T) -/
def tyD : PyData → String
  | .none => "NoneType"
  | .bool _ => "bool"
  | .int _ => "int"
  | .str _ => "str"
  | .list _ => "list"
  | .tuple _ => "tuple"
  | .dict _ => "dict"
def isS (T t : String) : Bool := t == T || (T == "int" && t == "bool")
def isT (T : String) (d : PyData) : Bool := isS T (tyD d)
theorem kit_strs : ∀ T ∈ ["int", "bool", "str", "tuple", "list", "dict"], ∀ t ∈ ["NoneType", "bool", "int", "str", "list", "tuple", "dict"], kitB t T = some (isS T t) := by decide +kernel
theorem kit_all {K : PySem.W.Frag} (T : String) (hT : T ∈ ["int", "bool", "str", "tuple", "list", "dict"]) (d : PyData) : PySem.W.kitOne K (.type (tyD d)) (.type T) = some (isT T d) :=
  kit_ty (kit_strs T hT (tyD d) (by cases d <;> simp [tyD]))
theorem tyX_rp {v : V} {d : PyData} (h : Rp K H v d) : TyX K H v (.type (tyD d)) := by
  cases h with
  | non => exact .base .non
  | bl b => exact .base (.bl b)
  | int i => exact .base (.int i)
  | str x => exact .base (.str x)
  | lst h1 h2 =>
    rcases h1 with ⟨o, h1⟩ | ⟨o, its, n, h1, h2, _⟩
    · exact .base (.frz h1)
    · exact .kList h1 h2
  | tup h1 h2 =>
    rcases h1 with (h1 | ⟨o, h1⟩) | ⟨o, its, n, h1, h2, _⟩
    · exact .base (.tup h1)
    · exact .fTuple h1
    · exact .kTuple h1 h2
  | dk h1 h2 => exact .fDict h1
theorem tyX_pk {v : V} {d : PyData} (h : Pk K H v d) : TyX K H v (.type (tyD d)) := by
  cases h with
  | sh h => exact tyX_rp h
  | lst h1 h2 => exact .base (.lst h1)
  | dk h1 h2 => exact .base (.dK h1)
/-- the second argument stands for a built-in type: told by its name -/
def dIsa (T : String) : List PyData → Option PyData
  | [d] => some (.bool (isT T d))
  | _ => none
end
section
variable {X : Cx} {κ : List SK} {W : WX}
theorem qe_isa {pu : Bool} {ka : RK} {fa : M PyData} {a : Expr} {pos p p2 : Pos} {T : Str} {n : String} (hT : n ∈ ["int", "bool", "str", "tuple", "list", "dict"]) (hg : Gl X "isinstance") (hm : X.mg "isinstance" = none) (hgT : Gl X T) (hmT : X.mg T = none) (hvT : bootBuiltins T = some (.type n)) (ha : QE X κ W pu ka a fa)
    (la : ka.looks X.K := by trivial) (hnT : T ≠ "__name__" := by decide) (hdT : (T == ("__debug__" : Str)) = false := by decide) (he : starEach [a, .Name T p2] X.env = (false, eval a X.env) :: starEach [.Name T p2] X.env := by rfl) (he2 : starEach [.Name T p2] X.env = (false, eval (.Name T p2) X.env) :: starEach [] X.env := by rfl) (hpl : (backTo pos (starEach [.Name T p2] X.env)).any (·.1) = false := by rfl) :
    QE X κ W pu .sh (.Call (.Name "isinstance" p) [a, .Name T p2] [] pos) (eUn (fun d => some (.bool (isT n d))) fa) := by
  refine PE.imp (pe_callB call_isi hg hm (by decide +kernel) (pa_cons ha (pa_cons (pe_bltn (v := .ty n) hgT hmT hvT rfl hnT hdT) pa_nil he2) he) (he := he) (hpl := hpl)) fun σ H Q ⟨ρ, G, f, q⟩ => ⟨ρ, G, f, ?_⟩
  unfold eUn at q
  cases e : fa ρ with
  | bad => rw [e] at q; exact q
  | ex c p ρ' => rw [e] at q; exact q
  | ok d ρ1 =>
    rw [e] at q
    intro v1 H1 G1 F1 f1 r1 s1 ok1 n1
    exact ⟨v1, .ty n, .type (tyD d), .type n, isT n d, rfl, .ty n, tyX_pk (ok1.pk la), kit_all n hT d, q _ H1 G1 [] f1 r1 s1 ⟨.bl _, rfl⟩ fun _ z => nomatch z⟩
end
/-! ### repr -/
def okR (d : PyData) : Bool := okD d && PyData.showable d && decide ((PyData.shown d).length ≤ sizeLine)
def dRepr : List PyData → Option PyData
  | [d] => if okR d = true then some (.str d.shown) else none
  | _ => none
theorem plain_hasDict : ∀ d : PyData, d.plain = true → d.hasDict = false
  | .none, _ => by simp only [PyData.hasDict]
  | .bool _, _ => by simp only [PyData.hasDict]
  | .int _, _ => by simp only [PyData.hasDict]
  | .str _, _ => by simp only [PyData.hasDict]
  | .list xs, h => by
    simp only [PyData.hasDict]
    exact plain_hasDictAll xs (by simpa [PyData.plain] using h)
  | .tuple xs, h => by
    simp only [PyData.hasDict]
    exact plain_hasDictAll xs (by simpa [PyData.plain] using h)
  | .dict _, h => by simp [PyData.plain] at h
where plain_hasDictAll : ∀ xs : List PyData, PyData.plainAll xs = true → PyData.hasDictAll xs = false
  | [], _ => by simp only [PyData.hasDictAll]
  | x :: xs, h => by
    have h' : x.plain = true ∧ PyData.plainAll xs = true := by simpa [PyData.plainAll] using h
    simp only [PyData.hasDictAll, plain_hasDict x h'.1, plain_hasDictAll xs h'.2, Bool.or_self]
theorem cd_repr {X : Cx} (hG : X.A.guards = some []) (hu : X.A.units + 65 < cLine) {k : RK} (hk : k.plain = true := by rfl) : CallR X (.builtin "repr") (rC X.K [k] .sh dRepr) := by
  intro pins s σ H xs us Q I r h
  obtain ⟨ds, r0, ra, eg, q⟩ := h
  unfold dRepr at eg
  split at eg
  · rename_i d
    split at eg
    · rename_i hl
      cases eg
      unfold okR at hl
      simp only [Bool.and_eq_true, decide_eq_true_eq] at hl
      obtain ⟨hp, hd⟩ := okD_p hl.1.1
      obtain ⟨x, rfl, h⟩ := ra.one
      obtain ⟨u, rfl, ru⟩ := vals1 r
      obtain ⟨as, rd⟩ := (h.pkk hk).reads I hp ru
      have hsm : d.hasDict = true → sysModules ∉ as := fun e => by rw [plain_hasDict d hp] at e; cases e
      cases rd with
      | none =>
        simp only [PyData.shown] at q
        exact PySem.P.repr_of_none ⟨.str _, H, I.tok _, ⟨_, rfl⟩, res_sh q (.str _)⟩
      | bool b =>
        simp only [PyData.shown] at q
        refine PySem.P.repr_of_bool ⟨.str _, H, I.tok _, ⟨_, rfl⟩, ?_⟩
        have := res_sh q (.str _)
        cases b <;> exact this
      | int i t =>
        simp only [PyData.shown] at q
        exact PySem.P.repr_of_int (by simpa [PyData.showable] using hl.1.2) ⟨.str _, H, I.tok _, ⟨_, rfl⟩, res_sh q (.str _)⟩
      | str x t =>
        have hz : (reprText x).length ≤ sizeLine := by simpa only [PyData.shown] using hl.2
        simp only [PyData.shown] at q
        exact PySem.P.repr_of_str ⟨.str _, H, I.tok _, ⟨_, rfl⟩, res_sh q (.str _)⟩ hz
      | list h1 h2 h3 h4 => exact repr_of_reads' (.list h1 h2 h3 h4) hl.1.2 hsm hG (by omega) (fun _ _ e => e) (fun h' u tk kp => ⟨.str _, H, I.kept kp, ⟨_, rfl⟩, res_sh q (.str _)⟩) hl.2
      | tuple h1 h2 h3 h4 => exact repr_of_reads' (.tuple h1 h2 h3 h4) hl.1.2 hsm hG (by omega) (fun _ _ e => e) (fun h' u tk kp => ⟨.str _, H, I.kept kp, ⟨_, rfl⟩, res_sh q (.str _)⟩) hl.2
      | dict h1 h2 h3 h4 h5 => simp [PyData.plain] at hp
    · cases eg
  · cases eg
end G

/-! G6: statements. -/
namespace G
open PySem PySem.Spec PyProof.Rows
open L2 hiding St Inv Binds

/-! ### slots stored, forgotten, frozen -/
/-- some slots forgotten -/
inductive Wk : List SK → List SK → Prop
  | nil : Wk [] []
  | keep {k : SK} {κ κ' : List SK} : Wk κ κ' → Wk (k :: κ) (k :: κ')
  | drop {k : SK} {κ κ' : List SK} : Wk κ κ' → Wk (k :: κ) (.no :: κ')
theorem Wk.refl : ∀ κ : List SK, Wk κ κ
  | [] => .nil
  | _ :: κ => .keep (Wk.refl κ)
theorem Wk.len {κ κ' : List SK} (h : Wk κ κ') : κ'.length = κ.length := by
  induction h with
  | nil => rfl
  | keep _ ih => rw [List.length_cons, List.length_cons, ih]
  | drop _ ih => rw [List.length_cons, List.length_cons, ih]
theorem Wk.at {κ κ' : List SK} (h : Wk κ κ') : ∀ (i : Nat) (k : SK), κ'[i]? = some k → k = .no ∨ κ[i]? = some k := by
  induction h with
  | nil => intro i k e; simp at e
  | keep _ ih =>
    intro i k e
    cases i with
    | zero => exact .inr e
    | succ i => exact ih i k (by simpa using e)
  | drop _ ih =>
    intro i k e
    cases i with
    | zero => simp at e; exact .inl e.symm
    | succ i => exact ih i k (by simpa using e)
/-- slots set to nothing -/
def clr : List Nat → Ev → Ev
  | [], ρ => ρ
  | i :: is, ρ => clr is (ρ.set i .none)
section
variable {K : PySem.W.Frag} {κ κ' : List SK} {ρ ρ' : Ev} {σ σ' : St} {H H' : Hp} {G G' : Nat → List Addr}
theorem clr_len : ∀ (is : List Nat) (ρ : Ev), (clr is ρ).length = ρ.length
  | [], _ => rfl
  | i :: is, ρ => by
    show (clr is (ρ.set i .none)).length = _
    rw [clr_len is, List.length_set]
theorem clr_at : ∀ (is : List Nat) (ρ : Ev) (j : Nat), j ∉ is → (clr is ρ)[j]? = ρ[j]?
  | [], _, _, _ => rfl
  | i :: is, ρ, j, h => by
    show (clr is (ρ.set i .none))[j]? = _
    rw [clr_at is _ j fun z => h (List.mem_cons_of_mem _ z), List.getElem?_set_ne fun z => h (by rw [z]; exact List.mem_cons_self)]
theorem FR.weak (f : FR K κ ρ σ H G) (w : Wk κ κ') : FR K κ' ρ σ H G := by
  refine ⟨w.len.trans f.l1, f.l2, fun i k e => ?_, fun i j c o c' o' e e' b hb hb' => ?_⟩
  · rcases w.at i k e with z | z
    · rw [z]; trivial
    · exact f.ok i k z
  · rcases w.at i _ e with z | z
    · cases z
    · rcases w.at j _ e' with z' | z'
      · cases z'
      · exact f.dj i j c o c' o' z z' b hb hb'
theorem Own.weak (w : Wk κ κ') {b : Addr} (h : Own κ' G b) : Own κ G b := by
  obtain ⟨i, c, o, e, hb⟩ := h
  rcases w.at i _ e with z | z
  · cases z
  · exact ⟨i, c, o, z, hb⟩
/-- forgotten slots' data are nothing -/
theorem FR.clr (f : FR K κ ρ σ H G) {is : List Nat} (h : ∀ i ∈ is, κ[i]? = some .no) : FR K κ (clr is ρ) σ H G := by
  refine ⟨f.l1, (clr_len _ _).trans f.l2, fun i k e => ?_, f.dj⟩
  by_cases hi : i ∈ is
  · have := h i hi
    rw [this] at e; cases e
    trivial
  · rw [clr_at is ρ i hi]
    exact f.ok i k e
/-- a slot stored -/
theorem FR.put {i : Nat} {k : SK} {v : V} {d : PyData} {F : List Addr} (f : FR K κ ρ σ H G) (hi : i < κ.length) (hk : SlotOk K k (some (some v)) (some d) F H) (hd : ∀ c o, k = .ow c o → ∀ b ∈ F, ¬ Own κ G b) :
    FR K (κ.set i k) (ρ.set i d) (σ.set i (some v)) H (fun j => if j = i then F else G j) := by
  have l1 := f.l1
  have l2 := f.l2
  refine ⟨by simp [f.l1], by simp [f.l2], fun j k' e => ?_, fun j j' c o c' o' e e' b hb hb' => ?_⟩
  · by_cases hj : j = i
    · subst hj
      rw [List.getElem?_set_self hi] at e
      cases e
      rw [List.getElem?_set_self (by omega), List.getElem?_set_self (by omega), if_pos rfl]
      exact hk
    · rw [List.getElem?_set_ne (Ne.symm hj)] at e
      rw [List.getElem?_set_ne (Ne.symm hj), List.getElem?_set_ne (Ne.symm hj), if_neg hj]
      exact f.ok j k' e
  · by_cases hj : j = i
    · by_cases hj' : j' = i
      · rw [hj, hj']
      · subst hj
        rw [List.getElem?_set_self hi] at e
        cases e
        rw [List.getElem?_set_ne (Ne.symm hj')] at e'
        rw [if_pos rfl] at hb
        rw [if_neg hj'] at hb'
        exact absurd ⟨j', c', o', e', hb'⟩ (hd c o rfl b hb)
    · rw [List.getElem?_set_ne (Ne.symm hj)] at e
      rw [if_neg hj] at hb
      by_cases hj' : j' = i
      · subst hj'
        rw [List.getElem?_set_self hi] at e'
        cases e'
        rw [if_pos rfl] at hb'
        exact absurd ⟨j, c, o, e, hb⟩ (hd c' o' rfl b hb')
      · rw [List.getElem?_set_ne (Ne.symm hj')] at e'
        rw [if_neg hj'] at hb'
        exact f.dj j j' c o c' o' e e' b hb hb'
theorem Own.put {i : Nat} {k : SK} {F : List Addr} {b : Addr} (hi : i < κ.length) (h : Own (κ.set i k) (fun j => if j = i then F else G j) b) : (b ∈ F ∧ ∃ c o, k = .ow c o) ∨ Own κ G b := by
  obtain ⟨j, c, o, e, hb⟩ := h
  dsimp only at hb
  by_cases hj : j = i
  · subst hj
    rw [List.getElem?_set_self hi] at e
    cases e
    rw [if_pos rfl] at hb
    exact .inl ⟨hb, c, o, rfl⟩
  · rw [List.getElem?_set_ne (Ne.symm hj)] at e
    rw [if_neg hj] at hb
    exact .inr ⟨j, c, o, e, hb⟩
end

/-! ### the judgement -/
structure Jx where
  κr : List SK
  rk : RK
  κx : List SK
  W : WX
  κb : List SK := []
  κc : List SK := []
def AftS (K : PySem.W.Frag) (mg : Str → Option Value) (J : Jx) (κ κn : List SK) (H : Hp) (G : Nat → List Addr) (D : Ends) : SR → Prop
  | .nx ρ' => ∀ σ' H' G', FR K κn ρ' σ' H' G' → Rel H (Own κ G) H' (Own κn G') → D.nx σ' H'
  | .bk ρ' => ∀ σ' H' G', FR K J.κb ρ' σ' H' G' → Rel H (Own κ G) H' (Own J.κb G') → D.bk σ' H'
  | .ct ρ' => ∀ σ' H' G', FR K J.κc ρ' σ' H' G' → Rel H (Own κ G) H' (Own J.κc G') → D.ct σ' H'
  | .rt d ρ' => ∀ v σ' H' G' F, FR K J.κr ρ' σ' H' G' → Rel H (Own κ G) H' (fun b => b ∈ F ∨ Own J.κr G' b) → ResOk K J.rk H' v d F → (∀ b ∈ F, ¬ Own J.κr G' b) → D.rt v H'
  | .ex c p ρ' => ∀ cls dd σ' H' G', ExcOk K mg c p cls dd H' → FR K J.κx ρ' σ' H' G' → Rel H (Own κ G) H' (Own J.κx G') → J.W cls dd σ' H'
  | .bad => False
def tS (K : PySem.W.Frag) (mg : Str → Option Value) (J : Jx) (κ κn : List SK) (f : MS) : TS := fun D σ H => ∃ ρ G, FR K κ ρ σ H G ∧ AftS K mg J κ κn H G D (f ρ)
abbrev QS (X : Cx) (J : Jx) (κ κn : List SK) (st : Stmt) (f : MS) : Prop := PS X st (tS X.K X.mg J κ κn f)
abbrev QSs (X : Cx) (J : Jx) (κ κn : List SK) (sts : List Stmt) (f : MS) : Prop := PSs X sts (tS X.K X.mg J κ κn f)

section
variable {K : PySem.W.Frag} {mg : Str → Option Value} {J : Jx} {κ κ1 κn : List SK} {H H1 : Hp} {G G1 : Nat → List Addr} {D : Ends}
theorem aftS_trans {r : SR} (r1 : Rel H (Own κ G) H1 (Own κ1 G1)) (h : AftS K mg J κ κn H G D r) : AftS K mg J κ1 κn H1 G1 D r := by
  cases r with
  | nx ρ => exact fun σ' H' G' f r => h σ' H' G' f (r1.trans r)
  | bk ρ => exact fun σ' H' G' f r => h σ' H' G' f (r1.trans r)
  | ct ρ => exact fun σ' H' G' f r => h σ' H' G' f (r1.trans r)
  | rt d ρ => exact fun v σ' H' G' F f r => h v σ' H' G' F f (r1.trans r)
  | ex c p ρ => exact fun cls dd σ' H' G' x f r => h cls dd σ' H' G' x f (r1.trans r)
  | bad => exact h
end
/-! ### rows of statements -/
def sNil : MS := fun ρ => .nx ρ
def sSeq (f g : MS) : MS := fun ρ => match f ρ with
  | .nx ρ' => g ρ'
  | .bk ρ' => .bk ρ'
  | .ct ρ' => .ct ρ'
  | .rt d ρ' => .rt d ρ'
  | .ex c p ρ' => .ex c p ρ'
  | .bad => .bad
/-- slots forgotten behind a row -/
def sClr (is : List Nat) (f : MS) : MS := fun ρ => match f ρ with
  | .nx ρ' => .nx (clr is ρ')
  | .bk ρ' => .bk ρ'
  | .ct ρ' => .ct ρ'
  | .rt d ρ' => .rt d ρ'
  | .ex c p ρ' => .ex c p ρ'
  | .bad => .bad
section
variable {X : Cx} {J : Jx} {κ κ1 κ2 κn : List SK} {st : Stmt} {sts : List Stmt} {f g : MS}
theorem qss_nil : QSs X J κ κ [] sNil := PSs.imp pss_nil fun D σ H ⟨ρ, G, f, h⟩ => h σ H G f (.refl ..)
theorem seq_ok {K : PySem.W.Frag} {mg : Str → Option Value} {D : Ends} {σ : St} {H : Hp} (h : tS K mg J κ κn (sSeq f g) D σ H) : tSeq (tS K mg J κ κ1 f) (tS K mg J κ1 κn g) D σ H := by
  obtain ⟨ρ, G, fr, h⟩ := h
  refine ⟨ρ, G, fr, ?_⟩
  unfold sSeq at h
  cases e : f ρ with
  | nx ρ' =>
    rw [e] at h
    exact fun σ' H' G' f' r' => ⟨ρ', G', f', aftS_trans r' h⟩
  | bk ρ' => rw [e] at h; exact h
  | ct ρ' => rw [e] at h; exact h
  | rt d ρ' => rw [e] at h; exact h
  | ex c p ρ' => rw [e] at h; exact h
  | bad => rw [e] at h; exact h
theorem qss_cons (h1 : QS X J κ κ1 st f) (h2 : QSs X J κ1 κn sts g) : QSs X J κ κn (st :: sts) (sSeq f g) := PSs.imp (pss_cons h1 h2) fun _ _ _ h => seq_ok h
theorem qss_one (h : QS X J κ κn st f) : QSs X J κ κn [st] f := pss_one h
/-- slots forgotten behind -/
theorem qss_clr {is : List Nat} (h : QSs X J κ κ1 sts f) (w : Wk κ1 κ2) (hi : ∀ i ∈ is, κ2[i]? = some .no) : QSs X J κ κ2 sts (sClr is f) := by
  refine PSs.imp h fun D σ H ⟨ρ, G, fr, h⟩ => ⟨ρ, G, fr, ?_⟩
  unfold sClr at h
  cases e : f ρ with
  | nx ρ' =>
    rw [e] at h
    exact fun σ' H' G' f' r' => h σ' H' G' ((f'.weak w).clr hi) (r'.sub fun b z => z.weak w)
  | bk ρ' => rw [e] at h; exact h
  | ct ρ' => rw [e] at h; exact h
  | rt d ρ' => rw [e] at h; exact h
  | ex c p ρ' => rw [e] at h; exact h
  | bad => rw [e] at h; exact h
theorem qs_clr {is : List Nat} (h : QS X J κ κ1 st f) (w : Wk κ1 κ2) (hi : ∀ i ∈ is, κ2[i]? = some .no) : QS X J κ κ2 st (sClr is f) := by
  refine PS.imp h fun D σ H ⟨ρ, G, fr, h⟩ => ⟨ρ, G, fr, ?_⟩
  unfold sClr at h
  cases e : f ρ with
  | nx ρ' =>
    rw [e] at h
    exact fun σ' H' G' f' r' => h σ' H' G' ((f'.weak w).clr hi) (r'.sub fun b z => z.weak w)
  | bk ρ' => rw [e] at h; exact h
  | ct ρ' => rw [e] at h; exact h
  | rt d ρ' => rw [e] at h; exact h
  | ex c p ρ' => rw [e] at h; exact h
  | bad => rw [e] at h; exact h
/-- whatever is not run -/
def sBad : MS := fun _ => .bad
theorem qs_bad : QS X J κ κn st sBad := PS.imp ps_never fun D σ H ⟨ρ, G, f, h⟩ => (show False from h)
theorem qss_bad : QSs X J κ κn sts sBad := PSs.imp pss_never fun D σ H ⟨ρ, G, f, h⟩ => (show False from h)
/-- where a row never goes on, what stands behind it may be anything -/
theorem qs_pass {pos : Pos} : QS X J κ κ (.Pass pos) sNil := PS.imp ps_pass fun D σ H ⟨ρ, G, f, h⟩ => h σ H G f (.refl ..)
def sBk : MS := fun ρ => .bk ρ
def sCt : MS := fun ρ => .ct ρ
theorem qs_break {pos : Pos} (w : Wk κ J.κb) : QS X J κ κn (.Break pos) sBk := PS.imp ps_break fun D σ H ⟨ρ, G, f, h⟩ => h σ H G (f.weak w) ((Rel.refl ..).sub fun b z => z.weak w)
theorem qs_continue {pos : Pos} (w : Wk κ J.κc) : QS X J κ κn (.Continue pos) sCt := PS.imp ps_continue fun D σ H ⟨ρ, G, f, h⟩ => h σ H G (f.weak w) ((Rel.refl ..).sub fun b z => z.weak w)
/-- a row of letters -/
theorem qs_doc {x j pos pos'} : QS X J κ κ (.Expr (.Constant (.str x) j pos) pos') sNil := PS.imp ps_doc fun D σ H ⟨ρ, G, f, h⟩ => h σ H G f (.refl ..)
end

/-! ### expressions as statements -/
def sDrop (fe : M PyData) : MS := fun ρ => match fe ρ with
  | .ok _ ρ' => .nx ρ'
  | .ex c p ρ' => .ex c p ρ'
  | .bad => .bad
def sRet (fe : M PyData) : MS := fun ρ => match fe ρ with
  | .ok d ρ' => .rt d ρ'
  | .ex c p ρ' => .ex c p ρ'
  | .bad => .bad
def sSet (i : Nat) (fe : M PyData) : MS := fun ρ => match fe ρ with
  | .ok d ρ' => .nx (ρ'.set i d)
  | .ex c p ρ' => .ex c p ρ'
  | .bad => .bad
def RK.sk : RK → SK
  | .sh => .sh
  | .pk => .no
  | .ow o => .ow (fun _ => True) o
section
variable {X : Cx} {J : Jx} {κ κ1 κ2 κn : List SK} {pu : Bool} {rk : RK} {fe : M PyData} {e : Expr} {pos : Pos}
theorem qs_expr (he : QE X κ J.W pu rk e fe) (wx : Wk κ J.κx) (hs : swapsWith e none pos.line X.env = pure false := by rfl) : QS X J κ κ (.Expr e pos) (sDrop fe) := by
  refine PS.imp (ps_expr he hs) fun D σ H ⟨ρ, G, fr, h⟩ => ⟨ρ, G, fr, ?_⟩
  unfold sDrop at h
  cases e1 : fe ρ with
  | ok d ρ' => rw [e1] at h; exact fun v H' G' F f' r' s' ok n' => h σ H' G' f' r'
  | ex c p ρ' => rw [e1] at h; exact fun cls dd H' G' x f' r' => h cls dd σ H' G' x (f'.weak wx) (r'.sub fun b z => z.weak wx)
  | bad => rw [e1] at h; exact h
theorem qs_ret (he : QE X κ J.W pu J.rk e fe) (wr : Wk κ J.κr) (wx : Wk κ J.κx) : QS X J κ κn (.Return (some e) pos) (sRet fe) := by
  refine PS.imp (ps_ret he) fun D σ H ⟨ρ, G, fr, h⟩ => ⟨ρ, G, fr, ?_⟩
  unfold sRet at h
  cases e1 : fe ρ with
  | ok d ρ' =>
    rw [e1] at h
    refine fun v H' G' F f' r' s' ok n' => h v σ H' G' F (f'.weak wr) ⟨r'.keep, fun b z => ?_, r'.non⟩ ok fun b hb z => (n' b hb).2 (z.weak wr)
    rcases z with z | z
    · exact (n' b z).1
    · exact r'.new b (z.weak wr)
  | ex c p ρ' => rw [e1] at h; exact fun cls dd H' G' x f' r' => h cls dd σ H' G' x (f'.weak wx) (r'.sub fun b z => z.weak wx)
  | bad => rw [e1] at h; exact h
def sRetN : MS := fun ρ => .rt .none ρ
theorem qs_retN (hk : J.rk = .sh) (wr : Wk κ J.κr) : QS X J κ κn (.Return none pos) sRetN := by
  refine PS.imp ps_retN fun D σ H ⟨ρ, G, fr, h⟩ => ?_
  refine h .non σ H G [] (fr.weak wr) ⟨fun b u e _ => e, fun b z => ?_, fun _ z => z⟩ (by rw [hk]; exact ⟨.non, rfl⟩) fun _ z => nomatch z
  rcases z with z | z
  · cases z
  · exact .inl (z.weak wr)
/-- a name stored: κ' is what the slots hold then -/
theorem qs_set {i : Nat} {x : Str} {pos' : Pos} (hN : X.N.Nodup) (hi : X.N[i]? = some x) (hx : Loc X.env.scope x) (he : QE X κ J.W pu rk e fe) (wx : Wk κ J.κx) (hp : rk ≠ .pk := by intro h; cases h) (hil : i < κ.length := by first | decide | simp) (hs : swapsWith e (some (.Name x pos')) pos.line X.env = pure false := by rfl)
    (hf : X.fn x = true ∨ X.env.scope.names.lookup x = some .local := by first | exact .inl rfl | exact .inr rfl | assumption) : QS X J κ (κ.set i rk.sk) (.Assign [.Name x pos'] e pos) (sSet i fe) := by
  refine PS.imp (ps_set hN hi hx he hs hf) fun D σ H ⟨ρ, G, fr, h⟩ => ⟨ρ, G, fr, ?_⟩
  unfold sSet at h
  cases e1 : fe ρ with
  | ok d ρ' =>
    rw [e1] at h
    intro v H' G' F f' r' s' ok n'
    refine h _ H' _ (f'.put hil ?_ fun c o _ b hb => (n' b hb).2) ⟨r'.keep, fun b z => ?_, r'.non⟩
    · cases rk with
      | sh => exact ⟨v, d, rfl, rfl, ok.1⟩
      | pk => exact absurd rfl hp
      | ow o => exact ⟨v, d, rfl, rfl, trivial, ok⟩
    · rcases Own.put hil z with ⟨z, _⟩ | z
      · exact (n' b z).1
      · exact r'.new b z
  | ex c p ρ' => rw [e1] at h; exact fun cls dd H' G' x f' r' => h cls dd σ H' G' x (f'.weak wx) (r'.sub fun b z => z.weak wx)
  | bad => rw [e1] at h; exact h
end

/-! ### if, while -/
def sIf (c : M Bool) (f g : MS) : MS := fun ρ => match c ρ with
  | .ok b ρ' => if b = true then f ρ' else g ρ'
  | .ex c p ρ' => .ex c p ρ'
  | .bad => .bad
def sWhile (c : M Bool) (body : MS) : Nat → MS
  | 0 => fun _ => .bad
  | n + 1 => fun ρ => match c ρ with
    | .ok b ρ' => if b = true then (match body ρ' with
      | .nx ρ2 => sWhile c body n ρ2
      | .ct ρ2 => sWhile c body n ρ2
      | .bk ρ2 => .nx ρ2
      | .rt d ρ2 => .rt d ρ2
      | .ex c p ρ2 => .ex c p ρ2
      | .bad => .bad) else .nx ρ'
    | .ex c p ρ' => .ex c p ρ'
    | .bad => .bad
section
variable {X : Cx} {J : Jx} {κ κ1 κ2 κn : List SK} {pu : Bool} {c : Expr} {a b : List Stmt} {fc : M Bool} {f g : MS} {pos : Pos}
theorem qs_if (hc : QT X κ J.W pu c fc) (ha : QSs X J κ κn a f) (hb : QSs X J κ κn b g) (wx : Wk κ J.κx) : QS X J κ κn (.If c a b pos) (sIf fc f g) := by
  refine PS.imp (ps_if hc ha hb) fun D σ H ⟨ρ, G, fr, h⟩ => ⟨ρ, G, fr, ?_⟩
  unfold sIf at h
  cases e1 : fc ρ with
  | ok t ρ' =>
    rw [e1] at h
    intro H' G' f' r' s'
    dsimp only at h
    have h := aftS_trans r' h
    cases t with
    | true => rw [if_pos rfl] at h ⊢; exact ⟨ρ', G', f', h⟩
    | false => rw [if_neg Bool.false_ne_true] at h ⊢; exact ⟨ρ', G', f', h⟩
  | ex c p ρ' => rw [e1] at h; exact fun cls dd H' G' x f' r' => h cls dd σ H' G' x (f'.weak wx) (r'.sub fun b z => z.weak wx)
  | bad => rw [e1] at h; exact h
theorem qs_while (n : Nat) (hp : PassesOwn (model X.prog X.w) X.A X.env X.xe) (hc : QT X κ J.W pu c fc) (hb : QSs X { J with κb := κ, κc := κ } κ κ a f) (wx : Wk κ J.κx) : QS X J κ κ (.While c a [] pos) (sWhile fc f n) := by
  refine PS.imp (ps_while hp hc hb) fun D σ0 H0 ⟨ρ0, G0, fr0, h0⟩ => ?_
  refine ⟨fun m σ H => ∃ ρ G, FR X.K κ ρ σ H G ∧ Rel H0 (Own κ G0) H (Own κ G) ∧ AftS X.K X.mg J κ κ H0 G0 D (sWhile fc f m ρ), ⟨n, ρ0, G0, fr0, .refl .., h0⟩, ?_⟩
  rintro m σ H ⟨ρ, G, fr, rr, h⟩
  refine ⟨ρ, G, fr, ?_⟩
  cases m with
  | zero => exact (show False from h).elim
  | succ m =>
    unfold sWhile at h
    cases e1 : fc ρ with
    | bad => rw [e1] at h; exact h
    | ex c p ρ' => rw [e1] at h; exact fun cls dd H' G' x f' r' => h cls dd σ H' G' x (f'.weak wx) ((rr.trans r').sub fun b z => z.weak wx)
    | ok t ρ' =>
      rw [e1] at h
      intro H' G' f' r' s'
      dsimp only at h
      have r0 := rr.trans r'
      cases t with
      | false =>
        rw [if_neg Bool.false_ne_true] at h ⊢
        exact h σ H' G' f' r0
      | true =>
        rw [if_pos rfl] at h ⊢
        refine ⟨fun σ H => ∃ ρ G, FR X.K κ ρ σ H G ∧ Rel H0 (Own κ G0) H (Own κ G) ∧ AftS X.K X.mg J κ κ H0 G0 D (sWhile fc f m ρ), fun σ' H' w => ⟨m, Nat.lt_succ_self m, w⟩, ρ', G', f', ?_⟩
        cases e2 : f ρ' with
        | nx ρ2 => rw [e2] at h; exact fun σ2 H2 G2 f2 r2 => ⟨ρ2, G2, f2, r0.trans r2, h⟩
        | ct ρ2 => rw [e2] at h; exact fun σ2 H2 G2 f2 r2 => ⟨ρ2, G2, f2, r0.trans r2, h⟩
        | bk ρ2 => rw [e2] at h; exact fun σ2 H2 G2 f2 r2 => h σ2 H2 G2 f2 (r0.trans r2)
        | rt d ρ2 => rw [e2] at h; exact fun v σ2 H2 G2 F f2 r2 => h v σ2 H2 G2 F f2 (r0.trans r2)
        | ex c p ρ2 => rw [e2] at h; exact fun cls dd σ2 H2 G2 x f2 r2 => h cls dd σ2 H2 G2 x f2 (r0.trans r2)
        | bad => rw [e2] at h; exact h
end
end G

/-! G7: targets, freezing, iterators, for. -/
namespace G
open PySem PySem.Spec PyProof.Rows
open L2 hiding St Inv Binds

/-! ### targets -/
abbrev TD := PyData → Ev → Option Ev
abbrev TDs := List PyData → Ev → Option Ev
section
variable (K : PySem.W.Frag)
def AftG (is : List Nat) (κ κ' : List SK) (σ : St) (H : Hp) (G : Nat → List Addr) (Q : St → Hp → Prop) : Option Ev → Prop
  | some ρ' => ∀ σ' G', FR K κ' ρ' σ' H G' → (∀ b, Own κ' G' b → Own κ G b) → (∀ j, j ∉ is → σ'[j]? = σ[j]?) → Q σ' H
  | none => False
def tGd (is : List Nat) (κ κ' : List SK) (g : TD) : TG := fun v σ H Q => ∃ ρ G d, FR K κ ρ σ H G ∧ Rp K H v d ∧ AftG K is κ κ' σ H G Q (g d ρ)
def tGds (is : List Nat) (κ κ' : List SK) (g : TDs) : TGs := fun vs σ H Q => ∃ ρ G ds, FR K κ ρ σ H G ∧ RpAll K H vs ds ∧ AftG K is κ κ' σ H G Q (g ds ρ)
end
abbrev QG (X : Cx) (is : List Nat) (κ κ' : List SK) (tg : Expr) (g : TD) : Prop := PG X tg (tGd X.K is κ κ' g)
abbrev QGs (X : Cx) (is : List Nat) (κ κ' : List SK) (tgs : List Expr) (g : TDs) : Prop := PGs X tgs (tGds X.K is κ κ' g)
theorem PG.imp {X : Cx} {e : Expr} {t t' : TG} (h : PG X e t) (i : ∀ v σ H Q, t' v σ H Q → t v σ H Q) : PG X e t' := ⟨fun pins s σ H v u Q I r q => h.run pins s σ H v u Q I r (i v σ H Q q)⟩
theorem PGs.imp {X : Cx} {e : List Expr} {t t' : TGs} (h : PGs X e t) (i : ∀ v σ H Q, t' v σ H Q → t v σ H Q) : PGs X e t' := ⟨fun pins s σ H v u Q I r q => h.run pins s σ H v u Q I r (i v σ H Q q)⟩
def gN (i : Nat) : TD := fun d ρ => some (ρ.set i d)
def gNi : TDs := fun ds ρ => match ds with
  | [] => some ρ
  | _ :: _ => none
def gC (g : TD) (gs : TDs) : TDs := fun ds ρ => match ds with
  | [] => none
  | d :: ds => match g d ρ with
    | some ρ' => gs ds ρ'
    | none => none
def gT (n : Nat) (gs : TDs) : TD := fun d ρ => match d with
  | .tuple ds => if ds.length = n then gs ds ρ else none
  | _ => none
section
variable {X : Cx} {is : List Nat} {κ κ1 κ2 : List SK} {pos : Pos}
theorem qg_name {i : Nat} {x : Str} (hN : X.N.Nodup) (hi : X.N[i]? = some x) (hx : Loc X.env.scope x) (hm : i ∈ is := by first | decide | simp) (hil : i < κ.length := by first | decide | simp) (hf : X.fn x = true ∨ X.env.scope.names.lookup x = some .local := by first | exact .inl rfl | exact .inr rfl | assumption) :
    QG X is κ (κ.set i .sh) (.Name x pos) (gN i) := by
  refine PG.imp (pg_name hN hi hx hf) fun v σ H Q ⟨ρ, G, d, f, r, h⟩ => ?_
  refine h _ (fun j => if j = i then [] else G j) (f.put hil ⟨v, d, rfl, rfl, r⟩ fun c o e => nomatch e) (fun b z => ?_) fun j hj => ?_
  · rcases Own.put hil z with ⟨z, _⟩ | z
    · cases z
    · exact z
  · rw [List.getElem?_set_ne]
    intro e
    exact hj (e ▸ hm)
theorem qgs_nil : QGs X is κ κ [] gNi := by
  refine PGs.imp pgs_nil fun vs σ H Q ⟨ρ, G, ds, f, r, h⟩ => ?_
  cases r with
  | nil => exact ⟨rfl, h σ G f (fun _ z => z) fun _ _ => rfl⟩
  | cons _ _ => exact h.elim
theorem qgs_cons {e : Expr} {es : List Expr} {g : TD} {gs : TDs} (h1 : QG X is κ κ1 e g) (h2 : QGs X is κ1 κ2 es gs)
    (hs : (assignEach (e :: es) X.env).map (·.2) = assign e X.env :: (assignEach es X.env).map (·.2) := by rfl) : QGs X is κ κ2 (e :: es) (gC g gs) := by
  refine PGs.imp (pgs_cons h1 h2 hs) fun vs σ H Q ⟨ρ, G, ds, f, r, h⟩ => ?_
  cases r with
  | nil => exact h.elim
  | @cons v vs d ds r rr =>
    refine ⟨v, vs, rfl, ρ, G, d, f, r, ?_⟩
    unfold gC at h
    dsimp only at h
    cases e : g d ρ with
    | none => rw [e] at h; exact h.elim
    | some ρ' =>
      rw [e] at h
      intro σ' G' f' o' u'
      refine ⟨ρ', G', ds, f', rr, ?_⟩
      dsimp only at h
      cases e2 : gs ds ρ' with
      | none => rw [e2] at h; exact h.elim
      | some ρ2 =>
        rw [e2] at h
        exact fun σ2 G2 f2 o2 u2 => h σ2 G2 f2 (fun b z => o' b (o2 b z)) fun j hj => (u2 j hj).trans (u' j hj)
theorem qg_tup {es : List Expr} {k : Nat} {gs : TDs} {n : Nat} (hc : X.calm = true) (h : QGs X is κ κ1 es gs) (hn : (assignEach es X.env).length = n := by rfl) (hst : (assignEach es X.env).findIdx? (·.1) = none := by rfl) :
    QG X is κ κ1 (.Tuple es k pos) (gT n gs) := by
  refine PG.imp (pg_tup hc h hn hst) fun v σ H Q ⟨ρ, G, d, f, r, h⟩ => ?_
  cases d with
  | tuple ds =>
    cases r with
    | @tup a xs _ q rr =>
      unfold gT at h
      dsimp only at h
      by_cases hl : ds.length = n
      · rw [if_pos hl] at h
        exact ⟨a, xs, rfl, q, rr.len.trans hl, ρ, G, ds, f, rr, h⟩
      · rw [if_neg hl] at h
        exact h.elim
  | _ => exact h.elim
end
/-- target = value, the value shared -/
def sAsg (fe : M PyData) (g : TD) : MS := fun ρ => match fe ρ with
  | .ok d ρ' => (match g d ρ' with
    | some ρ2 => .nx ρ2
    | none => .bad)
  | .ex c p ρ' => .ex c p ρ'
  | .bad => .bad
section
variable {X : Cx} {J : Jx} {κ κ1 : List SK} {is : List Nat} {pu : Bool} {fe : M PyData} {e tg : Expr} {g : TD} {pos : Pos}
theorem qs_asg (he : QE X κ J.W pu .sh e fe) (hg : QG X is κ κ1 tg g) (wx : Wk κ J.κx) (hs : swapsWithSole [tg] e pos.line X.env = pure false := by rfl) (hw : swappedStores [tg] e X.env = pure none := by rfl)
    (h1 : (assignEach [tg] X.env).map (·.2) = [assign tg X.env] := by rfl) : QS X J κ κ1 (.Assign [tg] e pos) (sAsg fe g) := by
  refine PS.imp (ps_asg he hg hs hw h1) fun D σ H ⟨ρ, G, fr, h⟩ => ⟨ρ, G, fr, ?_⟩
  unfold sAsg at h
  cases e1 : fe ρ with
  | ok d ρ' =>
    rw [e1] at h
    intro v H' G' F f' r' s' ok n'
    dsimp only at h
    refine ⟨ρ', G', d, f', ok.1, ?_⟩
    cases e2 : g d ρ' with
    | none => rw [e2] at h; exact h.elim
    | some ρ2 =>
      rw [e2] at h
      exact fun σ2 G2 f2 o2 _ => h σ2 H' G2 f2 (r'.sub o2)
  | ex c p ρ' => rw [e1] at h; exact fun cls dd H' G' x f' r' => h cls dd σ H' G' x (f'.weak wx) (r'.sub fun b z => z.weak wx)
  | bad => rw [e1] at h; exact h
/-- a, b = x, y: stored from the right; the values shared -/
def sPar (i j : Nat) (fa : M (List PyData)) : MS := fun ρ => match fa ρ with
  | .ok ds ρ' => (match ds with
    | [d, e] => .nx ((ρ'.set i d).set j e)
    | _ => .bad)
  | .ex c p ρ' => .ex c p ρ'
  | .bad => .bad
theorem qs_par {i j : Nat} {x y : Str} {a b : Expr} {fa : M (List PyData)} {px py pt : Pos} {kt k2 pt2} (hc : X.calm = true) (hN : X.N.Nodup) (hi : X.N[i]? = some x) (hj : X.N[j]? = some y) (hij : i ≠ j)
    (hx : X.env.scope.names.lookup x = some .local) (hy : X.env.scope.names.lookup y = some .local) (ha : QA X κ J.W pu [.sh, .sh] [a, b] fa) (wx : Wk κ J.κx)
    (hw : swappedStores [.Tuple [.Name x px, .Name y py] kt pt] (.Tuple [a, b] k2 pt2) X.env = pure (some [x, y])) (hil : i < κ.length := by first | decide | simp) (hjl : j < (κ.set i .sh).length := by first | decide | simp)
    (hs : swapsWithSole [.Tuple [.Name x px, .Name y py] kt pt] (.Tuple [a, b] k2 pt2) pos.line X.env = pure false := by rfl) :
    QS X J κ ((κ.set i .sh).set j .sh) (.Assign [.Tuple [.Name x px, .Name y py] kt pt] (.Tuple [a, b] k2 pt2) pos) (sPar i j fa) := by
  refine PS.imp (ps_par hc hN hi hj hij hx hy ha hw hs) fun D σ H ⟨ρ, G, fr, h⟩ => ⟨ρ, G, fr, ?_⟩
  unfold sPar at h
  cases e1 : fa ρ with
  | ok ds ρ' =>
    rw [e1] at h
    intro vs H' G' f' r' s' ok
    dsimp only at h
    cases ok with
    | @cons _ _ _ v _ d _ o1 ok =>
      cases ok with
      | @cons _ _ _ w _ e _ o2 ok =>
        cases ok
        refine ⟨v, w, rfl, ?_⟩
        have f1 := f'.put (i := i) (k := .sh) (v := v) (d := d) (F := []) hil ⟨v, d, rfl, rfl, o1.1⟩ (fun c o e => nomatch e)
        have f2 := f1.put (i := j) (k := .sh) (v := w) (d := e) (F := []) hjl ⟨w, e, rfl, rfl, o2.1⟩ (fun c o e => nomatch e)
        refine h _ H' _ f2 (r'.sub fun b z => ?_)
        rcases Own.put hjl z with ⟨z, _⟩ | z
        · cases z
        · rcases Own.put hil z with ⟨z, _⟩ | z
          · cases z
          · exact z
  | ex c p ρ' => rw [e1] at h; exact fun cls dd H' G' x f' r' => h cls dd σ H' G' x (f'.weak wx) (r'.sub fun b z => z.weak wx)
  | bad => rw [e1] at h; exact h
end

/-! ### freezing: what is owned becomes shared, for ever -/
section
variable {K : PySem.W.Frag} {κ : List SK} {ρ : Ev} {σ : St} {H : Hp} {G : Nat → List Addr}
theorem FR.updF (f : FR K κ ρ σ H G) {a : Addr} {u : HO} (h : ¬ Own κ G a) (k : Kp H (upd H a u)) : FR K κ ρ σ (upd H a u) G := by
  refine ⟨f.l1, f.l2, fun i s e => ?_, f.dj⟩
  have q := f.ok i s e
  cases s with
  | no => trivial
  | sh =>
    obtain ⟨v, d, e1, e2, h1⟩ := q
    exact ⟨v, d, e1, e2, Rp.kp k _ _ h1⟩
  | ow c o =>
    obtain ⟨v, d, e1, e2, h0, h1⟩ := q
    refine ⟨v, d, e1, e2, h0, o.frame h1 (fun b hb => ?_) k⟩
    exact upd_ne fun z => h ⟨i, c, o, e, z ▸ hb⟩
theorem kp_upd {a : Addr} {u w : HO} (h : H a = some w) (n : fz w = false) : Kp H (upd H a u) := fun b o e z => by
  rw [upd_ne]
  · exact e
  · intro q
    rw [q, h] at e
    cases e
    rw [n] at z; cases z
theorem upd_none {a b : Addr} {u : HO} (h : (upd H a u) b = none) : H b = none := by
  by_cases e : b = a
  · rw [e, upd_same] at h; cases h
  · rw [upd_ne e] at h; exact h
end
section
variable {X : Cx} {κ : List SK} {W : WX} {pu : Bool} {e : Expr} {f : M PyData}
/-- the list that has come is shared from now on -/
theorem qe_frz (h : QE X κ W pu (.ow (oLst X.K)) e f) : QE X κ W false .sh e f := by
  refine ⟨fun pins s σ H Q I ⟨ρ, G, fr, q⟩ => ?_⟩
  refine thn (h.run pins s σ H (fun v H' => ∀ s', Inv X pins σ H' s' → ∃ H'', Inv X pins σ H'' s' ∧ Q v H'') I ⟨ρ, G, fr, ?_⟩) fun u s1 ⟨v, H', I', r, z⟩ => ?_
  · cases e1 : f ρ with
    | bad => rw [e1] at q; exact q
    | ex c p ρ' => rw [e1] at q; exact q
    | ok d ρ' =>
      rw [e1] at q
      intro v H' G' F f' r' s' ok n' s1 I1
      obtain ⟨a, xs, ds, rfl, rfl, rfl, h1, h2⟩ := ok
      obtain ⟨od, I2⟩ := I1.lock h1 trivial
      have k : Kp H' (upd H' a (.frz od (.lst xs))) := kp_upd h1 rfl
      have na := n' a (by simp)
      refine ⟨_, I2, q (.ref a) _ G' [] (f'.updF na.2 k) ⟨fun b u hb nb => ?_, fun b z => r'.new b z, fun b z => r'.non b (upd_none z)⟩ (fun z => nomatch z) ⟨.lst (.inl ⟨_, upd_same⟩) (RpAll.kp k _ _ h2), rfl⟩ fun _ z => nomatch z⟩
      rw [upd_ne]
      · exact r'.keep b u hb nb
      · intro z
        subst z
        rcases na.1 with z | z
        · exact nb z
        · rw [hb] at z; cases z
  · obtain ⟨H'', I2, q⟩ := z s1 I'
    exact ⟨v, H'', I2, r, q⟩
theorem qe_frzD (h : QE X κ W pu (.ow (oDk X.K)) e f) : QE X κ W false .sh e f := by
  refine ⟨fun pins s σ H Q I ⟨ρ, G, fr, q⟩ => ?_⟩
  refine thn (h.run pins s σ H (fun v H' => ∀ s', Inv X pins σ H' s' → ∃ H'', Inv X pins σ H'' s' ∧ Q v H'') I ⟨ρ, G, fr, ?_⟩) fun u s1 ⟨v, H', I', r, z⟩ => ?_
  · cases e1 : f ρ with
    | bad => rw [e1] at q; exact q
    | ex c p ρ' => rw [e1] at q; exact q
    | ok d ρ' =>
      rw [e1] at q
      intro v H' G' F f' r' s' ok n' s1 I1
      obtain ⟨a, xs, ds, rfl, rfl, rfl, h1, h2⟩ := ok
      obtain ⟨od, I2⟩ := I1.lock h1 trivial
      have k : Kp H' (upd H' a (.frz od (.dK xs))) := kp_upd h1 rfl
      have na := n' a (by simp)
      refine ⟨_, I2, q (.ref a) _ G' [] (f'.updF na.2 k) ⟨fun b u hb nb => ?_, fun b z => r'.new b z, fun b z => r'.non b (upd_none z)⟩ (fun z => nomatch z) ⟨.dk upd_same (RpKv.kp k _ _ h2), rfl⟩ fun _ z => nomatch z⟩
      rw [upd_ne]
      · exact r'.keep b u hb nb
      · intro z
        subst z
        rcases na.1 with z | z
        · exact nb z
        · rw [hb] at z; cases z
  · obtain ⟨H'', I2, q⟩ := z s1 I'
    exact ⟨v, H'', I2, r, q⟩
end
section
variable {K : PySem.W.Frag} {κ : List SK} {ρ : Ev} {σ : St} {H : Hp} {G : Nat → List Addr}
/-- a slot's kind changed, the slot and the heap as told -/
theorem FR.turn {i : Nat} {k : SK} {F : List Addr} {H' : Hp} (f : FR K κ ρ σ H G) (hi : i < κ.length) (hk : SlotOk K k σ[i]? ρ[i]? F H') (hF : ∀ b ∈ F, b ∈ G i) (ho : ∃ c o, κ[i]? = some (.ow c o)) (kp : Kp H H') (ne : ∀ b, b ∉ G i → (∃ u, H b = some u) → H' b = H b) :
    FR K (κ.set i k) ρ σ H' (fun j => if j = i then F else G j) := by
  obtain ⟨c0, o0, e0⟩ := ho
  refine ⟨by simp [f.l1], f.l2, fun j s e => ?_, fun j j' c o c' o' e e' b hb hb' => ?_⟩
  · by_cases hj : j = i
    · subst hj
      rw [List.getElem?_set_self hi] at e
      cases e
      rw [if_pos rfl]
      exact hk
    · rw [List.getElem?_set_ne (Ne.symm hj)] at e
      rw [if_neg hj]
      have q := f.ok j s e
      cases s with
      | no => trivial
      | sh =>
        obtain ⟨v, d, e1, e2, h1⟩ := q
        exact ⟨v, d, e1, e2, Rp.kp kp _ _ h1⟩
      | ow c o =>
        obtain ⟨v, d, e1, e2, h0, h1⟩ := q
        refine ⟨v, d, e1, e2, h0, o.frame h1 (fun b hb => ne b (fun z => hj (f.dj j i c o c0 o0 e e0 b hb z)) ?_) kp⟩
        obtain ⟨u, eu, _⟩ := o.live h1 b hb
        exact ⟨u, eu⟩
  · by_cases hj : j = i
    · by_cases hj' : j' = i
      · rw [hj, hj']
      · subst hj
        rw [List.getElem?_set_ne (Ne.symm hj')] at e'
        rw [if_pos rfl] at hb
        rw [if_neg hj'] at hb'
        exact absurd (f.dj j' j c' o' c0 o0 e' e0 b hb' (hF b hb)) hj'
    · rw [List.getElem?_set_ne (Ne.symm hj)] at e
      rw [if_neg hj] at hb
      by_cases hj' : j' = i
      · subst hj'
        rw [if_pos rfl] at hb'
        exact absurd (f.dj j j' c o c0 o0 e e0 b hb (hF b hb')) hj
      · rw [List.getElem?_set_ne (Ne.symm hj')] at e'
        rw [if_neg hj'] at hb'
        exact f.dj j j' c o c' o' e e' b hb hb'
theorem Own.turn {i : Nat} {k : SK} {F : List Addr} {b : Addr} (hi : i < κ.length) (hF : ∀ b ∈ F, b ∈ G i) (ho : ∃ c o, κ[i]? = some (.ow c o)) (h : Own (κ.set i k) (fun j => if j = i then F else G j) b) : Own κ G b := by
  obtain ⟨c0, o0, e0⟩ := ho
  obtain ⟨j, c, o, e, hb⟩ := h
  dsimp only at hb
  by_cases hj : j = i
  · subst hj
    rw [if_pos rfl] at hb
    exact ⟨j, c0, o0, e0, hF b hb⟩
  · rw [List.getElem?_set_ne (Ne.symm hj)] at e
    rw [if_neg hj] at hb
    exact ⟨j, c, o, e, hb⟩
end
section
variable {X : Cx} {J : Jx} {κ κn : List SK} {sts : List Stmt} {f : MS}
/-- the list of slot i is shared from here on -/
theorem qss_frz (i : Nat) {c : V → Prop} (hk : κ[i]? = some (.ow c (oLst X.K))) (h : QSs X J (κ.set i .sh) κn sts f) : QSs X J κ κn sts f := by
  refine ⟨fun pins s σ H D I ⟨ρ, G, fr, q⟩ => ?_⟩
  obtain ⟨v, d, e1, e2, _, a, xs, ds, rfl, eG, rfl, h1, h2⟩ := fr.ok i _ hk
  obtain ⟨od, I2⟩ := I.lock h1 trivial
  have k : Kp H (upd H a (.frz od (.lst xs))) := kp_upd h1 rfl
  have hil : i < κ.length := (List.getElem?_eq_some_iff.mp hk).1
  have ne : ∀ b, b ∉ G i → (upd H a (.frz od (.lst xs))) b = H b := fun b hb => upd_ne fun z => hb (by rw [eG, z]; simp)
  refine h.run pins s σ _ D I2 ⟨ρ, _, fr.turn (F := []) hil ⟨.ref a, .list ds, e1, e2, .lst (.inl ⟨_, upd_same⟩) (RpAll.kp k _ _ h2)⟩ (fun _ z => nomatch z) ⟨c, _, hk⟩ k (fun b hb _ => ne b hb), ?_⟩
  refine aftS_trans ⟨fun b u hb nb => ?_, fun b z => .inl (Own.turn (F := []) hil (fun _ z => nomatch z) ⟨c, _, hk⟩ z), fun b z => upd_none z⟩ q
  rw [ne b fun z => nb ⟨i, c, _, hk, z⟩]
  exact hb
theorem qss_frzD (i : Nat) {c : V → Prop} (hk : κ[i]? = some (.ow c (oDk X.K))) (h : QSs X J (κ.set i .sh) κn sts f) : QSs X J κ κn sts f := by
  refine ⟨fun pins s σ H D I ⟨ρ, G, fr, q⟩ => ?_⟩
  obtain ⟨v, d, e1, e2, _, a, xs, ds, rfl, eG, rfl, h1, h2⟩ := fr.ok i _ hk
  obtain ⟨od, I2⟩ := I.lock h1 trivial
  have k : Kp H (upd H a (.frz od (.dK xs))) := kp_upd h1 rfl
  have hil : i < κ.length := (List.getElem?_eq_some_iff.mp hk).1
  have ne : ∀ b, b ∉ G i → (upd H a (.frz od (.dK xs))) b = H b := fun b hb => upd_ne fun z => hb (by rw [eG, z]; simp)
  refine h.run pins s σ _ D I2 ⟨ρ, _, fr.turn (F := []) hil ⟨.ref a, .dict ds, e1, e2, .dk upd_same (RpKv.kp k _ _ h2)⟩ (fun _ z => nomatch z) ⟨c, _, hk⟩ k (fun b hb _ => ne b hb), ?_⟩
  refine aftS_trans ⟨fun b u hb nb => ?_, fun b z => .inl (Own.turn (F := []) hil (fun _ z => nomatch z) ⟨c, _, hk⟩ z), fun b z => upd_none z⟩ q
  rw [ne b fun z => nb ⟨i, c, _, hk, z⟩]
  exact hb
end
end G

/-! G8: iterators, for. -/
namespace G
open PySem PySem.Spec PyProof.Rows
open L2 hiding St Inv Binds

/-! ### what an iterator gives, as data -/
structure WalkD (K : PySem.W.Frag) (J : It) (ds : List PyData) (H1 : Hp) : Prop where
  stop : ∀ (H : Hp) (i : Nat), Kp H1 H → ds.length ≤ i → J.stop i H
  go : ∀ (H : Hp) (i : Nat) (d : PyData), Kp H1 H → ds[i]? = some d → J.go i H
  yld : ∀ (H : Hp) (i : Nat) (d : PyData) (x : V) (H' : Hp), Kp H1 H → ds[i]? = some d → J.yld i H x H' → Same H H' ∧ Rp K H' x d
abbrev MI := M (List PyData)
def AftI (K : PySem.W.Frag) (mg : Str → Option Value) (κ : List SK) (W : WX) (pu : Bool) (σ : St) (H : Hp) (G : Nat → List Addr) (R : It → Hp → Prop) : RS (List PyData) → Prop
  | .ok ds ρ' => ∀ J H' G', FR K κ ρ' σ H' G' → Rel H (Own κ G) H' (Own κ G') → (pu = true → Same H H') → WalkD K J ds H' → R J H'
  | .ex c p ρ' => ∀ cls dd H' G', ExcOk K mg c p cls dd H' → FR K κ ρ' σ H' G' → Rel H (Own κ G) H' (Own κ G') → W cls dd σ H'
  | .bad => False
def tI (K : PySem.W.Frag) (mg : Str → Option Value) (κ : List SK) (W : WX) (pu : Bool) (f : MI) : TI := fun σ H R => ∃ ρ G, FR K κ ρ σ H G ∧ AftI K mg κ W pu σ H G R (f ρ)
abbrev QI (X : Cx) (κ : List SK) (W : WX) (pu : Bool) (tg iter : Expr) (f : MI) : Prop := PI X tg iter (tI X.K X.mg κ W pu f)
/-- what a value gives -/
def itemsD : PyData → Option (List PyData)
  | .list ds => some ds
  | .tuple ds => some ds
  | .str x => some (x.cps.toList.map fun c => .str ⟨#[c]⟩)
  | .dict kvs => some (kvs.map (·.1))
  | _ => none
def iV (fe : M PyData) : MI := fun ρ => match fe ρ with
  | .ok d ρ' => (match itemsD d with
    | some ds => .ok ds ρ'
    | none => .bad)
  | .ex c p ρ' => .ex c p ρ'
  | .bad => .bad
section
variable {K : PySem.W.Frag} {H1 : Hp}
theorem rp_key (k : Key) : Rp K H1 (kV k) (keyD k) := by
  cases k with
  | inl i => exact .int i
  | inr x => exact .str x
theorem walk_lst {a : Addr} {xs : List V} {ds : List PyData} (h : SqZ K H1 a xs) (r : RpAll K H1 xs ds) : WalkD K (Itl K a) ds H1 where
  stop := fun H i k hl => ⟨xs, frz_sql (SqZ.kp k h), by rw [r.len]; exact hl⟩
  go := fun H i d k e => by
    obtain ⟨v, h1, _⟩ := r.getD e
    exact ⟨xs, v, frz_sql (SqZ.kp k h), h1⟩
  yld := fun H i d x H' k e y => by
    obtain ⟨v, h1, h2⟩ := r.getD e
    obtain ⟨rfl, y⟩ := y
    have e2 := y xs (frz_sql (SqZ.kp k h))
    rw [h1] at e2; cases e2
    exact ⟨.refl _, Rp.kp k _ _ h2⟩
theorem walk_tup {a : Addr} {xs : List V} {ds : List PyData} (h : SqT K H1 a xs) (r : RpAll K H1 xs ds) : WalkD K (Itt K a) ds H1 where
  stop := fun H i k hl => ⟨xs, SqT.kp k h, by rw [r.len]; exact hl⟩
  go := fun H i d k e => by
    obtain ⟨v, h1, _⟩ := r.getD e
    exact ⟨xs, v, SqT.kp k h, h1⟩
  yld := fun H i d x H' k e y => by
    obtain ⟨v, h1, h2⟩ := r.getD e
    obtain ⟨rfl, y⟩ := y
    have e2 := y xs (SqT.kp k h)
    rw [h1] at e2; cases e2
    exact ⟨.refl _, Rp.kp k _ _ h2⟩
theorem walk_str (x : Str) : WalkD K (Its x) (x.cps.toList.map fun c => .str ⟨#[c]⟩) H1 where
  stop := fun H i k hl => by
    show x.cps.size ≤ i
    simpa using hl
  go := fun H i d k e => by
    rw [List.getElem?_map] at e
    cases q : x.cps.toList[i]? with
    | none => rw [q] at e; cases e
    | some c =>
      have := (List.getElem?_eq_some_iff.mp q).1
      show i < x.cps.size
      simpa using this
  yld := fun H i d v H' k e y => by
    obtain ⟨rfl, c, hc, rfl⟩ := y
    rw [List.getElem?_map] at e
    have q : x.cps.toList[i]? = some c := by simpa using hc
    rw [q] at e
    cases e
    exact ⟨.refl _, .str _⟩
theorem walk_keys {a : Addr} {o : Obj} {kvs : List (Key × V)} {ds : List (PyData × PyData)} (h : H1 a = some (.frz o (.dK kvs))) (r : RpKv K H1 kvs ds) : WalkD K (Itk a o kvs) (ds.map (·.1)) H1 := by
  have ek : ∀ {kvs : List (Key × V)} {ds : List (PyData × PyData)}, RpKv K H1 kvs ds → ds.map (·.1) = kvs.map fun p => keyD p.1 := by
    intro kvs
    induction kvs with
    | nil => intro ds r; cases r; rfl
    | cons p ps ih =>
      intro ds r
      cases r with
      | cons r1 r2 => rw [List.map_cons, List.map_cons, ih r2]
  rw [ek r]
  refine ⟨fun H i k hl => ⟨k _ _ h rfl, by simpa using hl⟩, fun H i d k e => ⟨k _ _ h rfl, ?_⟩, fun H i d x H' k e y => ?_⟩
  · have := (List.getElem?_eq_some_iff.mp e).1
    simpa using this
  · obtain ⟨rfl, kk, vv, h1, rfl⟩ := y
    rw [List.getElem?_map, h1] at e
    cases e
    refine ⟨.refl _, rp_key kk⟩
end
section
variable {X : Cx} {κ : List SK} {W : WX} {pu : Bool} {tg e : Expr} {f : M PyData} {fi : MI}
theorem PI.imp {X : Cx} {tg e : Expr} {t t' : TI} (h : PI X tg e t) (i : ∀ σ H Q, t' σ H Q → t σ H Q) : PI X tg e t' := ⟨fun pins s σ H R I q => h.run pins s σ H R I (i σ H R q)⟩
/-- over a shared value of any kind that can be gone through -/
theorem qi_v (h : QE X κ W pu .sh e f) : QI X κ W pu tg e (iV f) := by
  refine ⟨fun pins s σ H R I ⟨ρ, G, fr, q⟩ => ?_⟩
  let T : V → Hp → Prop := fun v H1 => ∃ d, Rp X.K H1 v d ∧ ∃ ds, itemsD d = some ds ∧ ∀ J, WalkD X.K J ds H1 → R J H1
  have hE : tE X.K X.mg κ W pu .sh f σ H T := by
    refine ⟨ρ, G, fr, ?_⟩
    unfold iV at q
    cases e1 : f ρ with
    | bad => rw [e1] at q; exact q
    | ex c p ρ' => rw [e1] at q; exact q
    | ok d ρ' =>
      rw [e1] at q
      dsimp only at q
      intro v H' G' F f' r' s' ok n'
      cases e2 : itemsD d with
      | none => rw [e2] at q; exact q.elim
      | some ds =>
        rw [e2] at q
        exact ⟨d, ok.1, ds, e2, fun J w => q J H' G' f' r' s' w⟩
  have go : ∀ {s1 : Shared} {H1 : Hp} {v : V} {u : Value}, Inv X pins σ H1 s1 → RelV v u → T v H1 → wpAny (model X.prog X.w) X.A (pyIter u) (PIE X pins σ tg R) X.xe s1 := by
    intro s1 H1 v u I1 r1 ⟨d, rp, ds, ed, w⟩
    cases rp with
    | non => cases ed
    | bl b => cases ed
    | int i => cases ed
    | str x =>
      cases ed
      obtain ⟨t, rfl⟩ := r1
      have q := w _ (walk_str x)
      cases ha : x.cps.all (· < 128)
      · exact wpAny_pyIter_wide ha (pi_one (tk := s1.toks) I1 _ (turn_str _ x t "str_iterator" (.inr rfl)) ⟨_, Heap.get?_push_size _ rfl, rfl, rfl⟩ q)
      · exact wpAny_pyIter_ascii ha (pi_one (tk := s1.toks) I1 _ (turn_str _ x t "str_ascii_iterator" (.inl rfl)) ⟨_, Heap.get?_push_size _ rfl, rfl, rfl⟩ q)
    | @lst a xs _ h1 h2 =>
      cases ed
      cases r1
      have q := w _ (walk_lst h1 h2)
      obtain ⟨its, rv, p, hz⟩ := I1.list (frz_sql h1)
      refine wpAny_pyIter_list p.isList ?_
      refine ⟨s1.heap.objs.size, [s1.heap.objs.size], _, _, H1, rfl, I1.kept (t' := s1.toks) fun b o e => Heap.get?_push_of_some _ e, turn_list a _, ⟨_, Heap.get?_push_size _ rfl, rfl, rfl⟩, fun b hb => ?_, q⟩
      have e : b = s1.heap.objs.size := by simpa using hb
      subst e
      exact I1.fpOk (Nat.le_refl _) (I1.hok.fresh (Nat.le_refl _))
    | @tup a xs _ h1 h2 =>
      cases ed
      cases r1
      have q := w _ (walk_tup h1 h2)
      obtain ⟨its, rv, p, hz⟩ := I1.tuple h1
      refine wpAny_pyIter_tuple (show s1.heap.IsTuple a its.toArray from p) ?_
      refine ⟨s1.heap.objs.size, [s1.heap.objs.size], _, _, H1, rfl, I1.kept (t' := s1.toks) fun b o e => Heap.get?_push_of_some _ e, turn_tuple a _, ⟨_, Heap.get?_push_size _ rfl, rfl, rfl⟩, fun b hb => ?_, q⟩
      have e : b = s1.heap.objs.size := by simpa using hb
      subst e
      exact I1.fpOk (Nat.le_refl _) (I1.hok.fresh (Nat.le_refl _))
    | @dk a o kvs ds' h1 h2 =>
      cases ed
      cases r1
      have q := w _ (walk_keys h1 h2)
      obtain ⟨hs, hgd, hx, es, ep, vs, hdt, hsz, kv, hm⟩ := I1.frzK h1
      refine iter_keys hs hgd hx hdt (pi_one (tk := s1.toks) I1 _ (turn_keys _ hdt) ⟨_, Heap.get?_push_size _ rfl, rfl, ?_⟩ q)
      rw [hsz] <;> rfl
  exact thn (h.run pins s σ H T I hE) fun u s1 ⟨v, H1, I1, r1, t1⟩ => go I1 r1 t1
end
/-! ### range, zip, enumerate, items, values -/
def aft1 (g : List PyData → Option (List PyData)) (fa : M (List PyData)) : MI := fun ρ => match fa ρ with
  | .ok ds ρ' => (match g ds with
    | some es => .ok es ρ'
    | none => .bad)
  | .ex c p ρ' => .ex c p ρ'
  | .bad => .bad
def rngs (lo : Int) (n : Nat) : List PyData := (List.range n).map fun i => .int (lo + (i : Nat))
def okR62 (i : Int) : Bool := decide (-(2 ^ 62) ≤ i) && decide (i < 2 ^ 62)
def rng1 : List PyData → Option (List PyData)
  | [.int j] => if okR62 j then some (rngs 0 j.toNat) else none
  | _ => none
def rng2 : List PyData → Option (List PyData)
  | [.int i, .int j] => if okR62 i && okR62 j then some (rngs i (j - i).toNat) else none
  | _ => none
theorem okR62_ok {i : Int} (h : okR62 i = true) : -(2 ^ 62) ≤ i ∧ i < 2 ^ 62 := by
  unfold okR62 at h
  rw [Bool.and_eq_true, decide_eq_true_iff, decide_eq_true_iff] at h
  exact h
section
variable {K : PySem.W.Frag} {H1 : Hp}
theorem rngs_at {lo : Int} {n i : Nat} {d : PyData} (e : (rngs lo n)[i]? = some d) : i < n ∧ d = .int (lo + (i : Nat)) := by
  unfold rngs at e
  rw [List.getElem?_map] at e
  by_cases h : i < n
  · rw [List.getElem?_range h] at e
    cases e
    exact ⟨h, rfl⟩
  · rw [List.getElem?_eq_none (by simpa using h)] at e
    cases e
theorem rngs_len (lo : Int) (n : Nat) : (rngs lo n).length = n := by simp [rngs]
theorem walk_rng (lo : Int) (n : Nat) : WalkD K (Itr lo n) (rngs lo n) H1 where
  stop := fun H i k hl => by rw [rngs_len] at hl; exact hl
  go := fun H i d k e => (rngs_at e).1
  yld := fun H i d x H' k e y => by
    obtain ⟨rfl, rfl⟩ := y
    rw [(rngs_at e).2]
    exact ⟨.refl _, .int _⟩
end
section
variable {X : Cx} {κ : List SK} {W : WX} {pu : Bool} {tg : Expr} {fa : M (List PyData)}
theorem ai_ok {K : PySem.W.Frag} {mg : Str → Option Value} {ks : List RK} {g : List PyData → Option (List PyData)} {σ : St} {H : Hp} {R : It → Hp → Prop} {Q : List V → Hp → Prop} (h : tI K mg κ W pu (aft1 g fa) σ H R)
    (hq : ∀ vs ds es H', ResAll K ks H' vs ds → g ds = some es → (∀ J, WalkD K J es H' → R J H') → Q vs H') : tA K mg κ W pu ks fa σ H Q := by
  obtain ⟨ρ, G, fr, q⟩ := h
  refine ⟨ρ, G, fr, ?_⟩
  unfold aft1 at q
  cases e1 : fa ρ with
  | bad => rw [e1] at q; exact q
  | ex c p ρ' => rw [e1] at q; exact q
  | ok ds ρ' =>
    rw [e1] at q
    dsimp only at q
    intro vs H' G' f' r' s' ok
    cases e2 : g ds with
    | none => rw [e2] at q; exact q.elim
    | some es =>
      rw [e2] at q
      exact hq vs ds es H' ok e2 fun J w => q J H' G' f' r' s' w
theorem qi_range1 {a : Expr} {p pos : Pos} (hg : Gl X "range") (hm : X.mg "range" = none) (ha : QA X κ W pu [.sh] [a] fa) (hs : starEach [a] X.env = [(false, eval a X.env)] := by rfl) : QI X κ W pu tg (.Call (.Name "range" p) [a] [] pos) (aft1 rng1 fa) :=
  PI.imp (pi_range1 hg hm ha hs) fun σ H R h => ai_ok h fun vs ds es H' ok e w => by
    cases ok with
    | cons o1 ok =>
      cases ok with
      | nil =>
        unfold rng1 at e
        split at e
        · rename_i j hj
          cases hj
          split at e
          · rename_i hok
            cases e
            obtain ⟨h1, h2⟩ := okR62_ok hok
            cases o1.1
            exact ⟨j, rfl, h1, h2, w _ (walk_rng 0 _)⟩
          · cases e
        · cases e
theorem qi_range2 {a b : Expr} {p pos : Pos} (hg : Gl X "range") (hm : X.mg "range" = none) (ha : QA X κ W pu [.sh, .sh] [a, b] fa) (hs : starEach [a, b] X.env = [(false, eval a X.env), (false, eval b X.env)] := by rfl) (hs2 : starEach [b] X.env = [(false, eval b X.env)] := by rfl) :
    QI X κ W pu tg (.Call (.Name "range" p) [a, b] [] pos) (aft1 rng2 fa) :=
  PI.imp (pi_range2 hg hm ha hs hs2) fun σ H R h => ai_ok h fun vs ds es H' ok e w => by
    cases ok with
    | cons o1 ok =>
      cases ok with
      | cons o2 ok =>
        cases ok with
        | nil =>
          unfold rng2 at e
          split at e
          · rename_i i j hj
            cases hj
            split at e
            · rename_i hok
              cases e
              rw [Bool.and_eq_true] at hok
              obtain ⟨h1, h2⟩ := okR62_ok hok.1
              obtain ⟨h3, h4⟩ := okR62_ok hok.2
              cases o1.1
              cases o2.1
              exact ⟨i, j, rfl, ⟨h1, h2, h3, h4⟩, w _ (walk_rng i _)⟩
            · cases e
          · cases e
/-- zip of two lists, of two tuples -/
def zipD (xs ys : List PyData) : List PyData := (xs.zip ys).map fun p => .tuple [p.1, p.2]
def zip2 : List PyData → Option (List PyData)
  | [.list xs, .list ys] => some (zipD xs ys)
  | [.tuple xs, .tuple ys] => some (zipD xs ys)
  | _ => none
theorem zipD_at {xs ys : List PyData} {i : Nat} {d : PyData} (e : (zipD xs ys)[i]? = some d) : ∃ x y, xs[i]? = some x ∧ ys[i]? = some y ∧ d = .tuple [x, y] := by
  unfold zipD at e
  rw [List.getElem?_map] at e
  cases q : (xs.zip ys)[i]? with
  | none => rw [q] at e; cases e
  | some p =>
    rw [q] at e
    cases e
    obtain ⟨h1, h2⟩ := List.getElem?_zip_eq_some.mp q
    exact ⟨_, _, h1, h2, rfl⟩
theorem zipD_len (xs ys : List PyData) : (zipD xs ys).length = min xs.length ys.length := by simp [zipD]
theorem same_upd0 {H : Hp} {T : Addr} {u : HO} (h : H T = none) : Same H (upd H T u) := fun b o e => by
  rw [upd_ne]
  · exact e
  · intro z; rw [z, h] at e; cases e
theorem qi_zip {e e2 : Expr} {p pos tpos : Pos} {elts : List Expr} {kk : Nat} (hg : Gl X "zip") (hm : X.mg "zip" = none) (ha : QA X κ W pu [.sh, .sh] [e, e2] fa)
    (hs : starEach [e, e2] X.env = (false, eval e X.env) :: starEach [e2] X.env := by rfl) (hpl : (backTo pos (starEach [e2] X.env)).any (·.1) = false := by rfl) :
    QI X κ W pu (.Tuple elts kk tpos) (.Call (.Name "zip" p) [e, e2] [] pos) (aft1 zip2 fa) :=
  PI.imp (RZ.pi_zipA hg hm ha hs hpl) fun σ H R h => ai_ok h fun vs ds es H' ok ez w => by
    cases ok with
    | cons o1 ok =>
      cases ok with
      | cons o2 ok =>
        cases ok with
        | nil =>
          unfold zip2 at ez
          split at ez
          · rename_i xs ys hj
            cases hj
            cases ez
            obtain ⟨o1, _⟩ := o1
            obtain ⟨o2, _⟩ := o2
            cases o1 with
            | @lst a us _ a1 a2 =>
              cases o2 with
              | @lst b ws _ b1 b2 =>
                refine ⟨a, b, us, ws, rfl, .inl ⟨frz_sql a1, frz_sql b1, w _ ⟨fun H i k hl => ?_, fun H i d k e => ?_, fun H i d x H' k e y => ?_⟩⟩⟩
                · refine ⟨us, ws, frz_sql (SqZ.kp k a1), frz_sql (SqZ.kp k b1), ?_⟩
                  rw [zipD_len] at hl
                  rw [a2.len, b2.len]
                  omega
                · obtain ⟨x, y, h1, h2, _⟩ := zipD_at e
                  obtain ⟨v, g1, _⟩ := a2.getD h1
                  obtain ⟨u, g2, _⟩ := b2.getD h2
                  exact ⟨us, ws, v, u, frz_sql (SqZ.kp k a1), frz_sql (SqZ.kp k b1), g1, g2⟩
                · obtain ⟨x', y', h1, h2, rfl⟩ := zipD_at e
                  obtain ⟨v, g1, g1'⟩ := a2.getD h1
                  obtain ⟨u, g2, g2'⟩ := b2.getD h2
                  obtain ⟨T, v', u', rfl, hT, rfl, y1, y2⟩ := y
                  have q1 := y1 us (frz_sql (SqZ.kp k a1))
                  have q2 := y2 ws (frz_sql (SqZ.kp k b1))
                  rw [g1] at q1; cases q1
                  rw [g2] at q2; cases q2
                  have sm : Same H (upd H T (.tup [v, u])) := same_upd0 hT
                  exact ⟨sm, .tup (.inl (.inl upd_same)) (.cons (Rp.kp (k.trans (.of_same sm)) _ _ g1') (.cons (Rp.kp (k.trans (.of_same sm)) _ _ g2') .nil))⟩
          · rename_i xs ys hj
            cases hj
            cases ez
            obtain ⟨o1, _⟩ := o1
            obtain ⟨o2, _⟩ := o2
            cases o1 with
            | @tup a us _ a1 a2 =>
              cases o2 with
              | @tup b ws _ b1 b2 =>
                refine ⟨a, b, us, ws, rfl, .inr ⟨a1, b1, w _ ⟨fun H i k hl => ?_, fun H i d k e => ?_, fun H i d x H' k e y => ?_⟩⟩⟩
                · refine ⟨us, ws, SqT.kp k a1, SqT.kp k b1, ?_⟩
                  rw [zipD_len] at hl
                  rw [a2.len, b2.len]
                  omega
                · obtain ⟨x, y, h1, h2, _⟩ := zipD_at e
                  obtain ⟨v, g1, _⟩ := a2.getD h1
                  obtain ⟨u, g2, _⟩ := b2.getD h2
                  exact ⟨us, ws, v, u, SqT.kp k a1, SqT.kp k b1, g1, g2⟩
                · obtain ⟨x', y', h1, h2, rfl⟩ := zipD_at e
                  obtain ⟨v, g1, g1'⟩ := a2.getD h1
                  obtain ⟨u, g2, g2'⟩ := b2.getD h2
                  obtain ⟨T, v', u', rfl, hT, rfl, y1, y2⟩ := y
                  have q1 := y1 us (SqT.kp k a1)
                  have q2 := y2 ws (SqT.kp k b1)
                  rw [g1] at q1; cases q1
                  rw [g2] at q2; cases q2
                  have sm : Same H (upd H T (.tup [v, u])) := same_upd0 hT
                  exact ⟨sm, .tup (.inl (.inl upd_same)) (.cons (Rp.kp (k.trans (.of_same sm)) _ _ g1') (.cons (Rp.kp (k.trans (.of_same sm)) _ _ g2') .nil))⟩
          · cases ez
end
end G

/-! G9: enumerate, items, values; for. -/
namespace PySem
set_option maxHeartbeats 4000000 in
theorem gq_meets_enumerate {v : Value} {o : Obj} {H : Heap → Prop} (B : Begins v o H) :
    Meets (Builtin.«enumerate.__new__» ⟨[.type "enumerate", v], []⟩) (fun _ R s => H s.heap ∧
      R (.ok (.ret (.ref (s.heap.push o).objs.size))) { s with heap := (s.heap.push o).push { cls := .type "enumerate", data := .fields #[.none, .bool false, .ref s.heap.objs.size, rawInt 0, .none, .none] } }) :=
  .of_wp fun prog w A R s h => by
    obtain ⟨hp, g, d, tk, os⟩ := s; obtain ⟨h1, h⟩ := h
    have hsub := sub_enumerate
    have q1 : ∀ {A' : Around} {E : Value → Shared → Prop} {Q : Value → Shared → Prop}, Q (.ref hp.objs.size) ⟨hp.push o, g, d, tk, os⟩ → wpAny (model prog w) A' (pyIter v) Q E ⟨hp, g, d, tk, os⟩ :=
      fun q => B.iter prog w _ _ ⟨hp, g, d, tk, os⟩ _ h1 q
    wp_walk using q1
    refine wpAny_stack_any fun st => wpAny_pure ?_
    split
    · rename_i c _ _ _ _ _
      cases (c == Value.type "enumerate")
      · wp_walk using q1
        exact ⟨_, rfl, h⟩
      · wp_walk using q1
        exact ⟨_, rfl, h⟩
    · wp_walk using q1
      exact ⟨_, rfl, h⟩
theorem gq_enum_begins {prog : Program} {w : World} {A : Around} {E : Value → Shared → Prop} {s : Shared} {v : Value} {o : Obj} {H : Heap → Prop} {Q : Value → Shared → Prop} (B : Begins v o H) (h1 : H s.heap)
    (h : ∀ h', IsEnum h' (s.heap.objs.size + 1) s.heap.objs.size 0 .none → h'.get? s.heap.objs.size = some o → h'.objs.size = s.heap.objs.size + 2 →
      (∀ b o, s.heap.get? b = some o → h'.get? b = some o) → Q (.ref (s.heap.objs.size + 1)) { s with heap := h' }) :
    wpAny (model prog w) A (call (.type "enumerate") [v]) Q E s := by
  refine callType_new F.called_enumerate (by decide) (F.typeCall_enumerate_1 _) (F.newCall_enumerate_1 _) (fun obj => F.args_object_init_2 obj _) F.entry_enumerate_new
    (gq_meets_enumerate B) ⟨h1, ?_⟩
  have hz : (s.heap.push o).objs.size = s.heap.objs.size + 1 := Heap.size_push ..
  show _ ∧ _
  rw [hz]
  have he : IsEnum ((s.heap.push o).push { cls := .type "enumerate", data := .fields #[.none, .bool false, .ref s.heap.objs.size, rawInt 0, .none, .none] }) (s.heap.objs.size + 1) s.heap.objs.size 0 .none := by
    have := Heap.get?_push_size (s.heap.push o) (o := { cls := .type "enumerate", data := .fields #[.none, .bool false, .ref s.heap.objs.size, rawInt 0, .none, .none] }) rfl
    rw [hz] at this; exact this
  refine ⟨⟨_, he, rfl⟩, h _ he (Heap.get?_push_of_some _ (Heap.get?_push_size _ B.free)) (by rw [Heap.size_push, hz]) fun b o x => Heap.get?_push_of_some _ (Heap.get?_push_of_some _ x)⟩
theorem gq_enum_end {prog : Program} {w : World} {A : Around} {E : Value → Shared → Prop} {s : Shared} {e it t : Addr} {items : Array Value} {j : Nat} {i : Int} {old : Value} {Q : Option Value → Shared → Prop}
    (hh : A.in1.handled = none) (he : IsEnum s.heap e it i old) (hit : s.heap.IsTupleIter it t j) (ht : s.heap.IsTuple t items) (hx : items[j]? = none)
    (hQ : ∀ h', Heap.ExtBut it s.heap h' → Q none { s with heap := h' }) : wpAny (model prog w) A (pyNext (.ref e)) Q E s := by
  have hT : s.TypeIs (.ref e) "enumerate" := ⟨_, he, rfl⟩
  unfold pyNext
  refine wpAny_bind (wpAny_attempt (wpAny_callSpecial?_slot (name := Str.ofString "__next__") hT F.slot_enumerate_next
    (wpAny_call_entry F.slot_enumerate_next hT F.entry_enumerate_next ?_ (F.args_enumerate_next_1 _))))
  show wpAny _ _ (field (.ref e) 2 >>= _) _ _ _
  refine wpAny_bind (wpAny_field he rfl (x := .ref it) rfl ?_)
  refine wpAny_bind (wpAny_nextOf_tuple_end hh hit ht hx fun h' x he' hx' => ?_)
  obtain ⟨o, ho, hc⟩ := hx'
  refine wpAny_bind (wpAny_isInstance (T := "StopIteration") (b := true) ⟨o, ho, hc⟩ isSubtype_stop ?_)
  exact wpAny_pure (hQ _ he')
end PySem
namespace G
open PySem PySem.Spec PyProof.Rows
open L2 hiding St Inv Binds
/-- the tuple at a, its items in new pairs -/
def IteT (K : PySem.W.Frag) (a : Addr) (xs : List V) : It :=
  ⟨fun i H => SqT K H a xs ∧ i < xs.length, fun i H v H' => ∃ T x, v = .ref T ∧ H T = none ∧ H' = upd H T (.tup [.int (i : Nat), x]) ∧ xs[i]? = some x, fun i H => SqT K H a xs ∧ xs.length ≤ i⟩
theorem turn_enumT {P : Program} {w : World} {K : PySem.W.Frag} {elts : List Expr} {kk : Nat} {tpos : Pos} {xs : List V} (a e it : Addr) :
    Turn P w K (.Tuple elts kk tpos) (IteT K a xs) [e, it] e (fun i h => (∃ old, IsEnum h e it ((i : Nat) : Int) old) ∧ h.IsTupleIter it a i ∧ e ≠ it ∧ e ≠ a ∧ a ≠ it) where
  mem := by simp
  obj := fun i h st b hb => by
    obtain ⟨⟨old, he⟩, ⟨o, ho, hc, hd⟩, _⟩ := st
    have e' : b = e ∨ b = it := by simpa using hb
    rcases e' with z | z
    · rw [z]; exact ⟨_, he, fun v q => nomatch q⟩
    · rw [z]; exact ⟨o, ho, fun v q => by rw [hd] at q; cases q⟩
  keep := fun i h h' st k => let ⟨⟨old, he⟩, hi, hne⟩ := st; ⟨⟨old, k e (by simp) _ he⟩, hi.at fun o q => k it (by simp) o q, hne⟩
  item := by
    intro X hP hw hK hc i pins s σ H E I hf st hg
    subst hP hw hK
    obtain ⟨⟨old, he⟩, hit, hne, hea, hai⟩ := st
    obtain ⟨hq, hlt⟩ := hg
    obtain ⟨its, rv, p, hz⟩ := I.tuple hq
    obtain ⟨x, hx⟩ : ∃ x, xs[i]? = some x := ⟨xs[i], by simp [hlt]⟩
    obtain ⟨u, hu, ru⟩ := rv.get hx
    have hel : e < s.heap.objs.size := Heap.lt_size he
    have hil : it < s.heap.objs.size := by obtain ⟨_, q, _⟩ := hit; exact Heap.lt_size q
    have hh : X.A.in1.handled = none := I.ok.hd hc
    have D := Draws.tuple (prog := X.prog) (w := X.w) hh it a hai its.toArray
    have hl : i < its.toArray.size := by
      have := (List.getElem?_eq_some_iff.mp hu).1
      simpa using this
    refine wpAny_pyNext_enum_itemD D he ⟨hit, p⟩ hl hne (by simp [hne, hea]) fun y h' tk hy ho hit' hT hsz hk => ?_
    have ey : y = u := by
      have hy : its.toArray[i]? = some y := hy
      rw [List.getElem?_toArray, hu] at hy
      cases hy; rfl
    subst ey
    refine ⟨_, rfl, wpAny_letOwnedTupleGo_enum (s := { s with heap := h', toks := tk + 1 }) ho fun h'' he' sb => ?_⟩
    have hT2 : h''.get? s.heap.objs.size = some { cls := .type "tuple", data := .seq #[.int i tk, y] } := (sb.2 _ (Nat.ne_of_gt hel)).trans hT
    have new : ObjOk X.prog X.w (upd H s.heap.objs.size (.tup [.int (i : Nat), x])) h'' s.heap.objs.size (.tup [.int (i : Nat), x]) :=
      ⟨by show 2 ≤ sizeLine; decide, [.int i tk, y], .cons ⟨_, rfl⟩ (.cons ru .nil), ⟨_, hT2, rfl, _, rfl⟩⟩
    have I1 : Inv X pins σ (upd H s.heap.objs.size (.tup [.int (i : Nat), x])) { s with heap := h'', toks := tk + 1 } :=
      I.turnedNew (ch := [e, it]) (fun b ob hb q => (sb.2 b (fun z => hb (by simp [z]))).trans (hk b ob (fun z => hb (by simp [z])) (fun z => hb (by simp [z])) q)) hf (Nat.le_refl _) new
    refine ⟨.ref s.heap.objs.size, _, I1, rfl, ⟨_, x, rfl, I.hok.fresh (Nat.le_refl _), rfl, hx⟩, ⟨⟨y, ?_⟩, hit'.1.at fun o q => (sb.2 it (Ne.symm hne)).trans q, hne, hea, hai⟩, fun b hb => ?_⟩
    · have e1 : ((i + 1 : Nat) : Int) = (i : Int) + 1 := by omega
      rw [e1]; exact he'
    · have hb' : b < s.heap.objs.size := by
        have e' : b = e ∨ b = it := by simpa using hb
        rcases e' with z | z
        · rw [z]; exact hel
        · rw [z]; exact hil
      rw [upd_ne (Nat.ne_of_lt hb')]
      exact (hf b hb).1
  done := by
    intro X hP hw hK hc i pins s σ H E I hf st hg
    subst hP hw hK
    obtain ⟨⟨old, he⟩, hit, hne, hea, hai⟩ := st
    obtain ⟨hq, hlt⟩ := hg
    obtain ⟨its, rv, p, hz⟩ := I.tuple hq
    obtain ⟨f0, f1, f2, f3, f4, f5⟩ := hf it (by simp)
    have hl := rv.length
    have hh : X.A.in1.handled = none := I.ok.hd hc
    have hv : its.toArray[i]? = none := by simp; omega
    refine gq_enum_end hh he hit p hv fun h' eb => ⟨rfl, I.turned (t' := s.toks) (fun b o hb q => eb b o hb q) f0 f1 f3 f4 f5⟩
  self := fun A i s Q E st h => let ⟨⟨_, he⟩, _⟩ := st; wpAny_pyIter_enum he h
def enumGo : Nat → List PyData → List PyData
  | _, [] => []
  | n, d :: ds => .tuple [.int (n : Nat), d] :: enumGo (n + 1) ds
def enumD : List PyData → Option (List PyData)
  | [.list xs] => some (enumGo 0 xs)
  | [.tuple xs] => some (enumGo 0 xs)
  | _ => none
theorem enumGo_at : ∀ {xs : List PyData} {n i : Nat} {d : PyData}, (enumGo n xs)[i]? = some d → ∃ x, xs[i]? = some x ∧ d = .tuple [.int ((n + i : Nat) : Int), x]
  | [], _, _, _, e => by simp [enumGo] at e
  | x :: xs, n, 0, d, e => by
    simp [enumGo] at e
    exact ⟨x, by simp, by rw [← e]; simp⟩
  | x :: xs, n, i + 1, d, e => by
    have e : (enumGo (n + 1) xs)[i]? = some d := by simpa [enumGo] using e
    obtain ⟨y, h1, h2⟩ := enumGo_at e
    refine ⟨y, by simpa using h1, ?_⟩
    rw [h2]
    have : n + 1 + i = n + (i + 1) := by omega
    rw [this]
theorem enumGo_len : ∀ (xs : List PyData) (n : Nat), (enumGo n xs).length = xs.length
  | [], _ => rfl
  | _ :: xs, n => by rw [enumGo, List.length_cons, List.length_cons, enumGo_len xs]
section
variable {X : Cx} {κ : List SK} {W : WX} {pu : Bool} {tg : Expr} {fa : M (List PyData)}
theorem qi_enum {e : Expr} {p pos tpos : Pos} {elts : List Expr} {kk : Nat} (hg : Gl X "enumerate") (hm : X.mg "enumerate" = none) (ha : QA X κ W pu [.sh] [e] fa) (hs : starEach [e] X.env = [(false, eval e X.env)] := by rfl) :
    QI X κ W pu (.Tuple elts kk tpos) (.Call (.Name "enumerate" p) [e] [] pos) (aft1 enumD fa) := by
  refine ⟨fun pins s σ H R I h => ?_⟩
  let T : List V → Hp → Prop := fun vs H1 => ∃ d v, vs = [v] ∧ Rp X.K H1 v d ∧ ∃ es, enumD [d] = some es ∧ ∀ J, WalkD X.K J es H1 → R J H1
  have hE : tA X.K X.mg κ W pu [.sh] fa σ H T := ai_ok h fun vs ds es H' ok ez w => by
    cases ok with
    | cons o1 ok =>
      cases ok with
      | nil => exact ⟨_, _, rfl, o1.1, es, ez, w⟩
  refine Call_ (ld_blt I hg hm boot_enumerate (PyProof.Rows.callWith_type1 (thn (ha.run pos pins s σ H T I hE) fun us s1 ⟨vs, H1, I1, r1, d, v, ev, rp, es, ez, w⟩ => ?_) hs rfl))
  subst ev
  have fresh2 : ∀ b, b ∈ [s1.heap.objs.size + 1, s1.heap.objs.size] → FpOk X pins H1 b := fun b hb => by
    have e' : b = s1.heap.objs.size + 1 ∨ b = s1.heap.objs.size := by simpa using hb
    have hle : s1.heap.objs.size ≤ b := by
      rcases e' with z | z
      · rw [z]; exact Nat.le_add_right _ _
      · rw [z]; exact Nat.le_refl _
    exact I1.fpOk hle (I1.hok.fresh hle)
  cases r1 with
  | cons r rr =>
    cases rr
    unfold enumD at ez
    split at ez
    · rename_i xs hj
      cases hj
      cases ez
      cases rp with
      | @lst a us _ h1 h2 =>
        cases r
        obtain ⟨its, rv, p', hz⟩ := I1.list (frz_sql h1)
        refine call_enumerate_list p'.isList fun h' he hit hsz hk => wpAny_pyIter_enum he ?_
        have I2 : Inv X pins σ H1 { s1 with heap := h' } := I1.kept (t' := s1.toks) hk
        refine ⟨s1.heap.objs.size + 1, [s1.heap.objs.size + 1, s1.heap.objs.size], _, _, H1, rfl, I2, turn_enum a (s1.heap.objs.size + 1) s1.heap.objs.size, ⟨⟨.none, he⟩, hit, Nat.succ_ne_self _⟩, fresh2, w _ ⟨fun H i k hl => ?_, fun H i d k e => ?_, fun H i d x H' k e y => ?_⟩⟩
        · rw [enumGo_len] at hl
          exact ⟨us, frz_sql (SqZ.kp k h1), by rw [h2.len]; exact hl⟩
        · obtain ⟨x, hx, _⟩ := enumGo_at e
          obtain ⟨v, g1, _⟩ := h2.getD hx
          exact ⟨us, v, frz_sql (SqZ.kp k h1), g1⟩
        · obtain ⟨x, hx, rfl⟩ := enumGo_at e
          obtain ⟨v, g1, g2⟩ := h2.getD hx
          obtain ⟨T, v', rfl, hT, rfl, y1⟩ := y
          have q1 := y1 us (frz_sql (SqZ.kp k h1))
          rw [g1] at q1; cases q1
          have sm : Same H (upd H T (.tup [.int (i : Nat), v])) := same_upd0 hT
          refine ⟨sm, .tup (.inl (.inl upd_same)) (.cons ?_ (.cons (Rp.kp (k.trans (.of_same sm)) _ _ g2) .nil))⟩
          rw [Nat.zero_add]
          exact .int _
    · rename_i xs hj
      cases hj
      cases ez
      cases rp with
      | @tup a us _ h1 h2 =>
        cases r
        obtain ⟨its, rv, p', hz⟩ := I1.tuple h1
        refine gq_enum_begins (begins_tuple a its.toArray) p' fun h' he hit hsz hk => wpAny_pyIter_enum he ?_
        have I2 : Inv X pins σ H1 { s1 with heap := h' } := I1.kept (t' := s1.toks) hk
        have hal : a < s1.heap.objs.size := by obtain ⟨_, q, _⟩ := p'; exact Heap.lt_size q
        refine ⟨s1.heap.objs.size + 1, [s1.heap.objs.size + 1, s1.heap.objs.size], _, _, H1, rfl, I2, turn_enumT (xs := us) a (s1.heap.objs.size + 1) s1.heap.objs.size, ⟨⟨.none, he⟩, ⟨_, hit, rfl, rfl⟩, Nat.succ_ne_self _, fun z => ?_, Nat.ne_of_lt hal⟩, fresh2, w _ ⟨fun H i k hl => ?_, fun H i d k e => ?_, fun H i d x H' k e y => ?_⟩⟩
        · rw [← z] at hal
          exact absurd hal (Nat.not_lt.mpr (Nat.le_add_right _ _))
        · rw [enumGo_len] at hl
          exact ⟨SqT.kp k h1, by rw [h2.len]; exact hl⟩
        · obtain ⟨x, hx, _⟩ := enumGo_at e
          refine ⟨SqT.kp k h1, ?_⟩
          rw [h2.len]
          exact (List.getElem?_eq_some_iff.mp hx).1
        · obtain ⟨x, hx, rfl⟩ := enumGo_at e
          obtain ⟨v, g1, g2⟩ := h2.getD hx
          obtain ⟨T, v', rfl, hT, rfl, y1⟩ := y
          rw [g1] at y1; cases y1
          have sm : Same H (upd H T (.tup [.int (i : Nat), v])) := same_upd0 hT
          refine ⟨sm, .tup (.inl (.inl upd_same)) (.cons ?_ (.cons (Rp.kp (k.trans (.of_same sm)) _ _ g2) .nil))⟩
          rw [Nat.zero_add]
          exact .int _
    · cases ez
end

/-! ### for -/
def forGo (g : TD) (body : MS) : List PyData → Ev → SR
  | [], ρ => .nx ρ
  | d :: ds, ρ => match g d ρ with
    | some ρ1 => (match body ρ1 with
      | .nx ρ2 => forGo g body ds ρ2
      | .ct ρ2 => forGo g body ds ρ2
      | .bk ρ2 => .nx ρ2
      | .rt d ρ2 => .rt d ρ2
      | .ex c p ρ2 => .ex c p ρ2
      | .bad => .bad)
    | none => .bad
def sFor (fi : MI) (g : TD) (body : MS) : MS := fun ρ => match fi ρ with
  | .ok ds ρ' => forGo g body ds ρ'
  | .ex c p ρ' => .ex c p ρ'
  | .bad => .bad
section
variable {X : Cx} {J : Jx} {κ κ1 κn : List SK} {pu : Bool} {is : List Nat} {tg iter : Expr} {body : List Stmt} {fi : MI} {g : TD} {f : MS} {pos : Pos}
theorem qs_for (hp : PassesOwn (model X.prog X.w) X.A X.env X.xe) (hc : X.calm = true) (hi : QI X κ J.W pu tg iter fi) (hg : QG X is κ κ1 tg g) (hb : QSs X { J with κb := κ, κc := κ } κ1 κ body f) (wx : Wk κ J.κx)
    (hs : ∀ x, foldedSetIterable iter X.env x = pure x := by intro _; rfl) : QS X J κ κ (.For tg iter body [] pos) (sFor fi g f) := by
  refine PS.imp (ps_for hp hc hi hg hb hs) fun D σ0 H0 ⟨ρ0, G0, fr0, h0⟩ => ⟨ρ0, G0, fr0, ?_⟩
  unfold sFor at h0
  cases e0 : fi ρ0 with
  | bad => rw [e0] at h0; exact h0
  | ex c p ρ' => rw [e0] at h0; exact fun cls dd H' G' x f' r' => h0 cls dd σ0 H' G' x (f'.weak wx) (r'.sub fun b z => z.weak wx)
  | ok ds ρ1 =>
    rw [e0] at h0
    dsimp only at h0
    intro It H1 G1 f1 r1 s1 w1
    refine ⟨fun i m σ H => ∃ ρ G, FR X.K κ ρ σ H G ∧ Rel H0 (Own κ G0) H (Own κ G) ∧ Kp H1 H ∧ i ≤ ds.length ∧ m = ds.length - i ∧ AftS X.K X.mg J κ κ H0 G0 D (forGo g f (ds.drop i) ρ), ⟨_, ρ1, G1, f1, r1, .refl _, Nat.zero_le _, rfl, h0⟩, ?_⟩
    rintro i m σ H ⟨ρ, G, fr, rr, kp, hi, rfl, h⟩
    by_cases hl : ds.length ≤ i
    · refine .inl ⟨w1.stop H i kp hl, ?_⟩
      have e : i = ds.length := by omega
      rw [e, List.drop_length] at h
      exact h σ H G fr rr
    · have hl : i < ds.length := Nat.lt_of_not_le hl
      obtain ⟨d, hd⟩ : ∃ d, ds[i]? = some d := ⟨ds[i], by simp [hl]⟩
      have ed : ds.drop i = d :: ds.drop (i + 1) := by
        rw [List.drop_eq_getElem_cons hl]
        have := (List.getElem?_eq_some_iff.mp hd).2
        rw [this]
      rw [ed] at h
      unfold forGo at h
      refine .inr ⟨w1.go H i d kp hd, fun σ H => ∃ ρ G, FR X.K κ ρ σ H G ∧ Rel H0 (Own κ G0) H (Own κ G) ∧ Kp H1 H ∧ AftS X.K X.mg J κ κ H0 G0 D (forGo g f (ds.drop (i + 1)) ρ), fun σ' H' ⟨ρ', G', a1, a2, a3, a4⟩ => ⟨ds.length - (i + 1), by omega, ρ', G', a1, a2, a3, hl, rfl, a4⟩, fun x H2 y => ?_⟩
      obtain ⟨sm, rp⟩ := w1.yld H i d x H2 kp hd y
      refine ⟨ρ, G, d, fr.same sm, rp, ?_⟩
      cases eg : g d ρ with
      | none => rw [eg] at h; exact h.elim
      | some ρ2 =>
        rw [eg] at h
        intro σ3 G3 f3 o3 _
        have r3 : Rel H0 (Own κ G0) H2 (Own κ1 G3) := (rr.trans (.of_same sm)).sub o3
        have k3 := kp.trans (.of_same sm)
        refine ⟨ρ2, G3, f3, ?_⟩
        dsimp only at h
        cases eb : f ρ2 with
        | nx ρ4 => rw [eb] at h; exact fun σ4 H4 G4 f4 r4 => ⟨ρ4, G4, f4, r3.trans r4, k3.trans (f3.kp r4), h⟩
        | ct ρ4 => rw [eb] at h; exact fun σ4 H4 G4 f4 r4 => ⟨ρ4, G4, f4, r3.trans r4, k3.trans (f3.kp r4), h⟩
        | bk ρ4 => rw [eb] at h; exact fun σ4 H4 G4 f4 r4 => h σ4 H4 G4 f4 (r3.trans r4)
        | rt d ρ4 => rw [eb] at h; exact fun v σ4 H4 G4 F f4 r4 => h v σ4 H4 G4 F f4 (r3.trans r4)
        | ex c p ρ4 => rw [eb] at h; exact fun cls dd σ4 H4 G4 x f4 r4 => h cls dd σ4 H4 G4 x f4 (r3.trans r4)
        | bad => rw [eb] at h; exact h
end
end G

/-! G10: list comprehensions. -/
namespace G
open PySem PySem.Spec PyProof.Rows
open L2 hiding St Inv Binds

def wipeK (κ : List SK) : List Nat → List SK
  | [] => κ
  | v :: vs => (wipeK κ vs).set v .no
def rst (ρ0 : Ev) : List Nat → Ev → Ev
  | [], ρ => ρ
  | v :: vs, ρ => (rst ρ0 vs ρ).set v (ρ0.getD v .none)
theorem wipeK_len (κ : List SK) : ∀ vs : List Nat, (wipeK κ vs).length = κ.length
  | [] => rfl
  | v :: vs => by rw [wipeK, List.length_set, wipeK_len κ vs]
theorem rst_len (ρ0 : Ev) : ∀ (vs : List Nat) (ρ : Ev), (rst ρ0 vs ρ).length = ρ.length
  | [], _ => rfl
  | v :: vs, ρ => by rw [rst, List.length_set, rst_len ρ0 vs]
theorem wipeK_in {κ : List SK} {i : Nat} {k : SK} : ∀ {vs : List Nat}, i ∈ vs → (wipeK κ vs)[i]? = some k → k = .no
  | v :: vs, h, e => by
    rw [wipeK] at e
    by_cases hv : v = i
    · subst hv
      have hl := (List.getElem?_eq_some_iff.mp e).1
      rw [List.length_set] at hl
      rw [List.getElem?_set_self hl] at e
      cases e; rfl
    · rw [List.getElem?_set_ne hv] at e
      rcases List.mem_cons.mp h with z | z
      · exact absurd z.symm hv
      · exact wipeK_in z e
theorem wipeK_out {κ : List SK} {i : Nat} : ∀ {vs : List Nat}, i ∉ vs → (wipeK κ vs)[i]? = κ[i]?
  | [], _ => rfl
  | v :: vs, h => by
    rw [wipeK, List.getElem?_set_ne fun z => h (by rw [z]; exact List.mem_cons_self)]
    exact wipeK_out fun m => h (List.mem_cons_of_mem _ m)
theorem rst_out {ρ0 : Ev} {i : Nat} : ∀ {vs : List Nat} {ρ : Ev}, i ∉ vs → (rst ρ0 vs ρ)[i]? = ρ[i]?
  | [], _, _ => rfl
  | v :: vs, ρ, h => by
    rw [rst, List.getElem?_set_ne fun z => h (by rw [z]; exact List.mem_cons_self)]
    exact rst_out fun m => h (List.mem_cons_of_mem _ m)
theorem rst_in {ρ0 : Ev} {i : Nat} : ∀ {vs : List Nat} {ρ : Ev}, i ∈ vs → i < ρ.length → (rst ρ0 vs ρ)[i]? = some (ρ0.getD i .none)
  | v :: vs, ρ, h, hl => by
    rw [rst]
    by_cases hv : v = i
    · subst hv
      rw [List.getElem?_set_self (by rw [rst_len]; exact hl)]
    · rw [List.getElem?_set_ne hv]
      rcases List.mem_cons.mp h with z | z
      · exact absurd z.symm hv
      · exact rst_in z hl
theorem wipe_in {σ : St} {i : Nat} : ∀ {vs : List Nat}, i ∈ vs → (wipe σ vs)[i]? = if i < σ.length then some none else none
  | v :: vs, h => by
    unfold wipe
    by_cases hv : v = i
    · subst hv
      by_cases hl : v < σ.length
      · rw [List.getElem?_set_self (by rw [wipe_length]; exact hl), if_pos hl]
      · rw [if_neg hl, List.getElem?_eq_none]
        rw [List.length_set, wipe_length]
        omega
    · rw [List.getElem?_set_ne hv]
      rcases List.mem_cons.mp h with z | z
      · exact absurd z.symm hv
      · exact wipe_in z
section
variable {K : PySem.W.Frag} {κ κ1 : List SK} {ρ ρ' : Ev} {σ σ' : St} {H H' : Hp} {G G' : Nat → List Addr} {vs : List Nat}
theorem FR.wiped (f : FR K κ ρ σ H G) (vs : List Nat) : FR K (wipeK κ vs) ρ (wipe σ vs) H G := by
  refine ⟨by rw [wipeK_len, wipe_length]; exact f.l1, by rw [wipe_length]; exact f.l2, fun i k e => ?_, fun i j c o c' o' e e' b hb hb' => ?_⟩
  · by_cases hi : i ∈ vs
    · rw [wipeK_in hi e]; trivial
    · rw [wipeK_out hi] at e
      rw [wipe_out hi]
      exact f.ok i k e
  · by_cases hi : i ∈ vs
    · have := wipeK_in hi e; cases this
    · by_cases hj : j ∈ vs
      · have := wipeK_in hj e'; cases this
      · rw [wipeK_out hi] at e
        rw [wipeK_out hj] at e'
        exact f.dj i j c o c' o' e e' b hb hb'
theorem Own.unwipe {b : Addr} (h : Own (wipeK κ vs) G b) : Own κ G b := by
  obtain ⟨i, c, o, e, hb⟩ := h
  by_cases hi : i ∈ vs
  · have := wipeK_in hi e; cases this
  · rw [wipeK_out hi] at e
    exact ⟨i, c, o, e, hb⟩
/-- the block's own names hold nothing owned -/
def NoOw (κ : List SK) (vs : List Nat) : Prop := ∀ v ∈ vs, κ[v]? = some .no ∨ κ[v]? = some .sh
theorem Own.wiped (hK : NoOw κ vs) {b : Addr} (h : Own κ G b) : Own (wipeK κ vs) G b := by
  obtain ⟨i, c, o, e, hb⟩ := h
  refine ⟨i, c, o, ?_, hb⟩
  rw [wipeK_out]
  · exact e
  · intro hi
    rcases hK i hi with z | z <;> rw [z] at e <;> cases e
theorem FR.unwiped {ρ0 : Ev} {H0 : Hp} {G0 : Nat → List Addr} (f0 : FR K κ ρ0 σ H0 G0) (hK : NoOw κ vs) (kp : Kp H0 H') (f : FR K (wipeK κ vs) ρ' (wipe σ vs) H' G') : FR K κ (rst ρ0 vs ρ') σ H' G' := by
  have l2 := f.l2
  rw [wipe_length] at l2
  refine ⟨f0.l1, by rw [rst_len]; exact l2, fun i k e => ?_, fun i j c o c' o' e e' b hb hb' => ?_⟩
  · by_cases hi : i ∈ vs
    · rcases hK i hi with z | z
      · rw [z] at e; cases e; trivial
      · rw [z] at e; cases e
        obtain ⟨v, d, e1, e2, h1⟩ := f0.ok i _ z
        refine ⟨v, d, e1, ?_, Rp.kp kp _ _ h1⟩
        have hl : i < ρ'.length := by rw [l2]; exact (List.getElem?_eq_some_iff.mp e1).1
        rw [rst_in hi hl, List.getD_eq_getElem?_getD, e2]
        rfl
    · have q := f.ok i k (by rw [wipeK_out hi]; exact e)
      rw [wipe_out hi] at q
      rw [rst_out hi]
      exact q
  · have ni : ∀ {i : Nat} {c : V → Prop} {o : OP}, κ[i]? = some (SK.ow c o) → (wipeK κ vs)[i]? = some (SK.ow c o) := fun {i c o} e => by
      rw [wipeK_out]
      · exact e
      · intro hi
        rcases hK i hi with z | z <;> rw [z] at e <;> cases e
    exact f.dj i j c o c' o' (ni e) (ni e') b hb hb'
theorem wipe_same {σ σ2 : St} {vs : List Nat} (hl : σ2.length = σ.length) (h : ∀ j, j ∉ vs → σ2[j]? = (wipe σ vs)[j]?) : wipe σ2 vs = wipe σ vs := by
  refine List.ext_getElem? fun j => ?_
  by_cases hj : j ∈ vs
  · rw [wipe_in hj, wipe_in hj, hl]
  · rw [wipe_out hj]
    exact h j hj
end
/-! ### [elt for target in iter if ..] -/
def lcGo (g : TD) (ft : M Bool) (fe : M PyData) : List PyData → Ev → Option (List PyData × Ev)
  | [], ρ => some ([], ρ)
  | d :: ds, ρ => match g d ρ with
    | some ρ1 => (match ft ρ1 with
      | .ok b ρ2 => if b = true then (match fe ρ2 with
          | .ok y ρ3 => (match lcGo g ft fe ds ρ3 with
            | some (ys, ρ4) => some (y :: ys, ρ4)
            | none => none)
          | _ => none) else lcGo g ft fe ds ρ2
      | _ => none)
    | none => none
def eLc (vs : List Nat) (fi : MI) (g : TD) (ft : M Bool) (fe : M PyData) : M PyData := fun ρ => match fi ρ with
  | .ok ds ρ1 => (match lcGo g ft fe ds ρ1 with
    | some (out, ρ2) => if out.length ≤ sizeLine then .ok (.list out) (rst ρ1 vs ρ2) else .bad
    | none => .bad)
  | .ex c p ρ' => .ex c p ρ'
  | .bad => .bad
def WF : WX := fun _ _ _ _ => False
def tYesD : M Bool := fun ρ => .ok true ρ
abbrev QTs (X : Cx) (κ : List SK) (W : WX) (pu : Bool) (ifs : List Expr) (f : M Bool) : Prop := PTs X ifs (tT X.K X.mg κ W pu f)
theorem qts_nil {X : Cx} {κ : List SK} {W : WX} : QTs X κ W true [] tYesD := ⟨fun pins s σ H Q I ⟨ρ, G, f, q⟩ => pts_nil.run pins s σ H Q I (q H G f (.refl ..) fun _ => .refl _)⟩
theorem qts_one {X : Cx} {κ : List SK} {W : WX} {pu : Bool} {c : Expr} {f : M Bool} (h : QT X κ W pu c f) : QTs X κ W pu [c] f := pts_one h
section
variable {K : PySem.W.Frag} {mg : Str → Option Value} {κ κ1 : List SK} {W : WX} {pi pt pe : Bool} {vs : List Nat} {fi : MI} {g : TD} {ft : M Bool} {fe : M PyData}
theorem lc_ok (hK : NoOw κ vs) (hw : wipeK κ1 vs = wipeK κ vs) {σ : St} {H : Hp} {Q : VK} (h : tE K mg κ W (pi && (pt && pe)) (.ow (oLst K)) (eLc vs fi g ft fe) σ H Q) :
    tLc (tI K mg κ W pi fi) (tGd K vs (wipeK κ vs) κ1 g) (tT K mg κ1 WF pt ft) (tE K mg κ1 WF pe .sh fe) vs σ H Q := by
  obtain ⟨ρ0, G0, f0, h⟩ := h
  refine ⟨ρ0, G0, f0, ?_⟩
  unfold eLc at h
  cases e0 : fi ρ0 with
  | bad => rw [e0] at h; exact h
  | ex c p ρ' => rw [e0] at h; exact h
  | ok ds ρ1 =>
    rw [e0] at h
    dsimp only at h
    intro It H1 G1 f1 r1 s1 w1 D hD
    -- what is wanted in the end
    let Fin : Option (List PyData × Ev) → Prop := fun o => match o with
      | some (out, ρ2) => AftE K mg κ W (pi && (pt && pe)) (.ow (oLst K)) σ H G0 Q (if out.length ≤ sizeLine then .ok (.list out) (rst ρ1 vs ρ2) else .bad)
      | none => False
    have hF : Fin (lcGo g ft fe ds ρ1) := by
      cases e1 : lcGo g ft fe ds ρ1 with
      | none => rw [e1] at h; exact h
      | some p => obtain ⟨out, ρ2⟩ := p; rw [e1] at h; exact h
    have nD : ∀ {G : Nat → List Addr}, ¬ Own κ G1 D := fun {G} z => by
      obtain ⟨u, e, _⟩ := f1.live z
      rw [hD] at e; cases e
    have sm1 : Same H1 (upd H1 D (.lst [])) := same_upd0 hD
    refine ⟨fun i m H' => ∃ ρ G acc out, FR K (wipeK κ vs) ρ (wipe σ vs) H' G ∧ Rel H1 (Own κ G1) H' (Own (wipeK κ vs) G) ∧ ((pt && pe) = true → Same H1 H') ∧ Kp H1 H' ∧ H' D = some (.lst acc) ∧ RpAll K H' acc out ∧ ¬ Own (wipeK κ vs) G D ∧ i ≤ ds.length ∧ m = ds.length - i ∧
      Fin ((lcGo g ft fe (ds.drop i) ρ).map fun p => (out ++ p.1, p.2)), ⟨_, ρ1, G1, [], [], (f1.same sm1).wiped vs, (Rel.of_same sm1).sub fun b z => z.unwipe, fun _ => sm1, .of_same sm1, upd_same, .nil, fun z => nD (G := G1) z.unwipe, Nat.zero_le _, rfl, ?_⟩, ?_⟩
    · rw [List.drop_zero]
      cases e1 : lcGo g ft fe ds ρ1 with
      | none => rw [e1] at hF; exact hF
      | some p => rw [e1] at hF; exact hF
    rintro i m H2 ⟨ρ, G, acc, out, fr, rr, sm, kp, hDa, ra, nO, hi, rfl, h⟩
    by_cases hl : ds.length ≤ i
    · refine .inl ⟨w1.stop H2 i kp hl, ?_⟩
      have e : i = ds.length := by omega
      rw [e, List.drop_length] at h
      have h : AftE K mg κ W (pi && (pt && pe)) (.ow (oLst K)) σ H G0 Q (if (out ++ []).length ≤ sizeLine then .ok (.list (out ++ [])) (rst ρ1 vs ρ) else .bad) := h
      rw [List.append_nil] at h
      by_cases hs : out.length ≤ sizeLine
      · rw [if_pos hs] at h
        refine h (.ref D) H2 G [D] (f1.unwiped hK kp fr) (r1.trans (rr.sub fun b z => z.wiped hK)) (fun hp => ?_) ⟨D, acc, out, rfl, rfl, rfl, hDa, ra⟩ fun b hb => ?_
        · rw [Bool.and_eq_true] at hp
          exact (s1 hp.1).trans (sm hp.2)
        · rw [List.mem_singleton] at hb
          subst hb
          exact ⟨.inr (r1.non _ hD), fun z => nO (z.wiped hK)⟩
      · rw [if_neg hs] at h; exact h.elim
    · have hl : i < ds.length := Nat.lt_of_not_le hl
      obtain ⟨d, hd⟩ : ∃ d, ds[i]? = some d := ⟨ds[i], by simp [hl]⟩
      have ed : ds.drop i = d :: ds.drop (i + 1) := by
        rw [List.drop_eq_getElem_cons hl]
        have := (List.getElem?_eq_some_iff.mp hd).2
        rw [this]
      rw [ed] at h
      unfold lcGo at h
      refine .inr ⟨w1.go H2 i d kp hd, fun H' => ∃ ρ G acc out, FR K (wipeK κ vs) ρ (wipe σ vs) H' G ∧ Rel H1 (Own κ G1) H' (Own (wipeK κ vs) G) ∧ ((pt && pe) = true → Same H1 H') ∧ Kp H1 H' ∧ H' D = some (.lst acc) ∧ RpAll K H' acc out ∧ ¬ Own (wipeK κ vs) G D ∧
        Fin ((lcGo g ft fe (ds.drop (i + 1)) ρ).map fun p => (out ++ p.1, p.2)), fun H' ⟨ρ', G', acc', out', a1, a2, a3, a4, a5, a6, a7, a8⟩ => ⟨ds.length - (i + 1), by omega, ρ', G', acc', out', a1, a2, a3, a4, a5, a6, a7, hl, rfl, a8⟩, fun x H3 y => ?_⟩
      obtain ⟨sm3, rp⟩ := w1.yld H2 i d x H3 kp hd y
      refine ⟨ρ, G, d, fr.same sm3, rp, ?_⟩
      cases eg : g d ρ with
      | none => rw [eg] at h; exact h.elim
      | some ρ2 =>
        rw [eg] at h
        dsimp only at h
        intro σ4 G4 f4 o4 u4
        have hlen : σ4.length = σ.length := by
          have q1 := f4.l1
          have q2 := congrArg List.length hw
          rw [wipeK_len, wipeK_len] at q2
          rw [← q1, q2]
          exact f1.l1
        have hws : wipe σ4 vs = wipe σ vs := wipe_same hlen u4
        refine ⟨hws, ρ2, G4, f4, ?_⟩
        have r4 : Rel H1 (Own κ G1) H3 (Own κ1 G4) := (rr.trans (.of_same sm3)).sub o4
        have nO4 : ¬ Own κ1 G4 D := fun z => nO (o4 _ z)
        have hD3 : H3 D = some (.lst acc) := sm3 _ _ hDa
        cases et : ft ρ2 with
        | bad => rw [et] at h; exact h.elim
        | ex c p ρ' => rw [et] at h; exact h.elim
        | ok b ρ5 =>
          rw [et] at h
          dsimp only at h
          intro H5 G5 f5 r5 s5
          have r15 := r4.trans r5
          have hD5 : H5 D = some (.lst acc) := r5.keep _ _ hD3 nO4
          have nO5 : ¬ Own κ1 G5 D := fun z => (r5.new _ z).elim nO4 fun q => by rw [hD3] at q; cases q
          have kp5 : Kp H1 H5 := (kp.trans (.of_same sm3)).trans (f4.kp r5)
          have ra5 : RpAll K H5 acc out := RpAll.kp ((Kp.of_same sm3).trans (f4.kp r5)) _ _ ra
          cases b with
          | false =>
            rw [if_neg Bool.false_ne_true] at h ⊢
            refine ⟨ρ5, G5, acc, out, ?_, r15.sub fun b z => ?_, fun hp => ?_, kp5, hD5, ra5, fun z => ?_, h⟩
            · rw [← hw, ← hws]; exact f5.wiped vs
            · rw [← hw] at z; exact z.unwipe
            · exact ((sm hp).trans sm3).trans (s5 (Bool.and_eq_true_iff.mp hp).1)
            · rw [← hw] at z; exact nO5 z.unwipe
          | true =>
            rw [if_pos rfl] at h ⊢
            refine ⟨ρ5, G5, f5, ?_⟩
            cases ee : fe ρ5 with
            | bad => rw [ee] at h; exact h.elim
            | ex c p ρ' => rw [ee] at h; exact h.elim
            | ok dy ρ6 =>
              rw [ee] at h
              dsimp only at h
              intro y H6 G6 F6 f6 r6 s6 ok6 n6
              have r16 := r15.trans r6
              have hD6 : H6 D = some (.lst acc) := r6.keep _ _ hD5 nO5
              have nO6 : ¬ Own κ1 G6 D := fun z => (r6.new _ z).elim nO5 fun q => by rw [hD5] at q; cases q
              have kp6 : Kp H1 H6 := kp5.trans (f5.kp r6)
              have ra6 : RpAll K H6 acc out := RpAll.kp (f5.kp r6) _ _ ra5
              have kpu : Kp H6 (upd H6 D (.lst (acc ++ [y]))) := kp_upd hD6 rfl
              -- the bound
              cases el : lcGo g ft fe (ds.drop (i + 1)) ρ6 with
              | none => rw [el] at h; exact h.elim
              | some p =>
                obtain ⟨ys, ρ7⟩ := p
                rw [el] at h
                dsimp only [Option.map] at h
                have hb : (out ++ dy :: ys).length ≤ sizeLine := by
                  have h : AftE K mg κ W (pi && (pt && pe)) (.ow (oLst K)) σ H G0 Q (if (out ++ dy :: ys).length ≤ sizeLine then .ok (.list (out ++ dy :: ys)) (rst ρ1 vs ρ7) else .bad) := h
                  by_cases hq : (out ++ dy :: ys).length ≤ sizeLine
                  · exact hq
                  · rw [if_neg hq] at h; exact h.elim
                rw [List.length_append, List.length_cons] at hb
                refine ⟨acc, hD6, by rw [ra6.len]; omega, ρ6, G6, acc ++ [y], out ++ [dy], ?_, ⟨fun b u hb nb => ?_, fun b z => ?_, fun b z => r16.non b (upd_none z)⟩, fun hp => ?_, kp6.trans kpu, upd_same, (RpAll.kp kpu _ _ ra6).append (.cons (Rp.kp kpu _ _ ok6.1) .nil), fun z => ?_, ?_⟩
                · rw [← hw, ← hws]; exact (f6.updF nO6 kpu).wiped vs
                · rw [upd_ne]
                  · exact r16.keep b u hb nb
                  · intro z; rw [z, hD] at hb; cases hb
                · rw [← hw] at z; exact r16.new b z.unwipe
                · rw [Bool.and_eq_true] at hp
                  have q : Same H1 H6 := (((sm (by rw [hp.1, hp.2]; rfl)).trans sm3).trans (s5 hp.1)).trans (s6 hp.2)
                  intro b u hb
                  rw [upd_ne]
                  · exact q b u hb
                  · intro z; rw [z, hD] at hb; cases hb
                · rw [← hw] at z; exact nO6 z.unwipe
                · rw [el]
                  dsimp only [Option.map]
                  rw [List.append_assoc]
                  exact h
end
section
variable {X : Cx} {κ κ1 : List SK} {W : WX} {pi pt pe : Bool} {elt tg iter : Expr} {ifs : List Expr} {scope : Scope} {own : List (Str × Nat)} {pos : Pos} {fi : MI} {g : TD} {ft : M Bool} {fe : M PyData}
theorem qe_lc (hc : X.calm = true) (hN : X.N.Nodup) (hi : QI X κ W pi tg iter fi) (ok : BlkOk X.N X.env.scope scope own) (hK : NoOw κ (own.map (·.2))) (hw : wipeK κ1 (own.map (·.2)) = wipeK κ (own.map (·.2)))
    (hg : ∀ (s : Shared) (H : Hp) (C : Addr) (cl : List (Str × Addr)) (fp : List Addr), QG (X.blk s H scope (compEnvC scope cl C X.env) fp) (own.map (·.2)) (wipeK κ (own.map (·.2))) κ1 tg g)
    (ht : ∀ (s : Shared) (H : Hp) (C : Addr) (cl : List (Str × Addr)) (fp : List Addr), QTs (X.blk s H scope (compEnvC scope cl C X.env) fp) κ1 WF pt ifs ft)
    (he : ∀ (s : Shared) (H : Hp) (C : Addr) (cl : List (Str × Addr)) (fp : List Addr), QE (X.blk s H scope (compEnvC scope cl C X.env) fp) κ1 WF pe .sh elt fe) (hs : ∀ x, foldedSetIterable iter X.env x = pure x := by intro _; rfl) :
    QE X κ W (pi && (pt && pe)) (.ow (oLst X.K)) (.ListComp elt [⟨tg, iter, ifs, 0⟩] scope pos) (eLc (own.map (·.2)) fi g ft fe) :=
  PE.imp (pe_lc hc hN hi ok hg ht he hs) fun _ _ _ h => lc_ok hK hw h
variable {J : Jx}
/-- name = [..] on one line -/
theorem qs_setLc {i : Nat} {y : Str} {py spos : Pos} (hc : X.calm = true) (hN : X.N.Nodup) (hy : X.N[i]? = some y) (hyl : X.env.scope.names.lookup y = some .local)
    (hsw : swapsWith (.ListComp elt [⟨tg, iter, ifs, 0⟩] scope pos) (some (.Name y py)) spos.line X.env = pure true) (hi : QI X κ J.W pi tg iter fi) (ok : BlkOk X.N X.env.scope scope own) (hK : NoOw κ (own.map (·.2))) (hw : wipeK κ1 (own.map (·.2)) = wipeK κ (own.map (·.2)))
    (hg : ∀ (s : Shared) (H : Hp) (C : Addr) (cl : List (Str × Addr)) (fp : List Addr), QG (X.blk s H scope (compEnvC scope cl C X.env) fp) (own.map (·.2)) (wipeK κ (own.map (·.2))) κ1 tg g)
    (ht : ∀ (s : Shared) (H : Hp) (C : Addr) (cl : List (Str × Addr)) (fp : List Addr), QTs (X.blk s H scope (compEnvC scope cl C X.env) fp) κ1 WF pt ifs ft)
    (he : ∀ (s : Shared) (H : Hp) (C : Addr) (cl : List (Str × Addr)) (fp : List Addr), QE (X.blk s H scope (compEnvC scope cl C X.env) fp) κ1 WF pe .sh elt fe) (wx : Wk κ J.κx) (hil : i < κ.length := by first | decide | simp) (hs : ∀ x, foldedSetIterable iter X.env x = pure x := by intro _; rfl) :
    QS X J κ (κ.set i (.ow (fun _ => True) (oLst X.K))) (.Assign [.Name y py] (.ListComp elt [⟨tg, iter, ifs, 0⟩] scope pos) spos) (sSet i (eLc (own.map (·.2)) fi g ft fe)) := by
  refine PS.imp (ps_setLc (g := tGd X.K (own.map (·.2)) (wipeK κ (own.map (·.2))) κ1 g) (tt := tT X.K X.mg κ1 WF pt ft) (te := tE X.K X.mg κ1 WF pe .sh fe) hc hN hy hyl hsw hi ok hg ht he hs) fun D σ H h => ?_
  refine lc_ok (W := J.W) (pi := pi) (pt := pt) (pe := pe) hK hw ?_
  obtain ⟨ρ, G, fr, h⟩ := h
  refine ⟨ρ, G, fr, ?_⟩
  unfold sSet at h
  cases e1 : eLc (own.map (·.2)) fi g ft fe ρ with
  | ok d ρ' =>
    rw [e1] at h
    intro v H' G' F f' r' s' ok n'
    refine h _ H' _ (f'.put hil ⟨v, d, rfl, rfl, trivial, ok⟩ fun c o _ b hb => (n' b hb).2) ⟨r'.keep, fun b z => ?_, r'.non⟩
    rcases Own.put hil z with ⟨z, _⟩ | z
    · exact (n' b z).1
    · exact r'.new b z
  | ex c p ρ' => rw [e1] at h; exact fun cls dd H' G' x f' r' => h cls dd σ H' G' x (f'.weak wx) (r'.sub fun b z => z.weak wx)
  | bad => rw [e1] at h; exact h
end
end G

/-! G11: defs, calls. -/
namespace G
open PySem PySem.Spec PyProof.Rows
open L2 hiding St Inv Binds

/-! ### a def's promise, run where no guard stands -/
structure FnG (P : Program) (w : World) (K : PySem.W.Frag) (mg : Str → Option Value) (base : Heap) (CX : CXT) (k : Nat) (f : Addr) (fd : FuncData) (ps : List Str) (sp : Sp) : Prop where
  len : ∀ vs H Q E, sp vs H Q E → vs.length = ps.length
  run : ∀ (A : Around) (outer : List Env) (s : Shared) (H : Hp) (args : Args) (us : List Value) (vs : List V) (Q : VK) (E : XK), A.guards = some [] → Room k A → Env0 P w K mg base A outer s H → BindsTo s fd args (ps.zip us) → Vals vs us → sp vs H Q E →
    codeAny (model P w) A (.call (.ref f) args) (CR CX outer P w H s Q E) s
theorem FnG.mono {P : Program} {w : World} {K : PySem.W.Frag} {mg : Str → Option Value} {base : Heap} {CX : CXT} {j k : Nat} {f : Addr} {fd : FuncData} {ps : List Str} {sp : Sp} (F : FnG P w K mg base CX j f fd ps sp) (h : j ≤ k) :
    FnG P w K mg base CX k f fd ps sp := ⟨F.len, fun A outer s H args us vs Q E hg hr => F.run A outer s H args us vs Q E hg (hr.mono h)⟩
theorem FnG.imp {P : Program} {w : World} {K : PySem.W.Frag} {mg : Str → Option Value} {base : Heap} {CX : CXT} {k : Nat} {f : Addr} {fd : FuncData} {ps : List Str} {sp sp' : Sp} (F : FnG P w K mg base CX k f fd ps sp)
    (h : ∀ vs H Q E, sp' vs H Q E → sp vs H Q E) : FnG P w K mg base CX k f fd ps sp' :=
  ⟨fun vs H Q E q => F.len vs H Q E (h _ _ _ _ q), fun A outer s H args us vs Q E hg hr he hb hv hs => F.run A outer s H args us vs Q E hg hr he hb hv (h _ _ _ _ hs)⟩
/-- a def (or a method) of the text, by its body -/
theorem fnG_of {CX : CXT} {P : Program} {w : World} {K : PySem.W.Frag} {mg : Str → Option Value} {base : Heap} {k : Nat} {f : Addr} {name qual : Str} {params : Arguments} {body : List Stmt} {scope : Scope} {dV kV doc pm cdv ct oc : Value} {an od : Option Addr}
    {osl : Array (Option Value)} {N ps : List Str} {sp : Sp} (lk : K.lookup f = some ⟨oc, od, .func (PySem.W.fnOf name qual params body scope dV kV doc pm an cdv ct), osl⟩) (hcd : PySem.W.codeIn K cdv qual = true) (S : FnScope N ps scope)
    (len : ∀ vs H Q E, sp vs H Q E → vs.length = ps.length)
    (hbody : ∀ (A : Around) (outer : List Env) (s : Shared) (H : Hp) (vs : List V) (Q : VK) (E : XK), A.guards = some [] → Room k (A.deeper (envOfC qual scope s.heap.objs.size f cdv)) → sp vs H Q E →
      ∃ t, PSs (cxOf CX P w K mg base N qual scope f cdv A outer s H E) body t ∧ t { nx := fun _ H' => Q .non H', rt := Q } (start N vs) H) :
    FnG P w K mg base CX (k + 1) f (PySem.W.fnOf name qual params body scope dV kV doc pm an cdv ct) ps sp := by
  refine ⟨len, fun A outer s H args us vs Q E hg hr e0 hb r hsp => ?_⟩
  have hl := len _ _ _ _ hsp
  have KX : K.In s.heap := e0.mod.kin.keeps fun b o e => (e0.bs b o e).1
  have lim : s.heap.NoLimit := e0.mod.nolimit.keeps fun b o e => (e0.bs b o e).1
  have hkind : ∀ y ∈ ps.zip us, scope.names.lookup y.1 = some .local ∨ (scope.names.lookup y.1 = some .cell ∧ ((cellsFrom (s.heap.objs.size + 1) scope.names []).lookup y.1).isSome = true) := fun ⟨n, v⟩ hy => by
    rcases S.par n (List.of_mem_zip hy).1 with q | q
    · exact .inl q
    · exact .inr ⟨q, PySem.W.cellsFrom_some _ _ _ (.inl q)⟩
  refine codeAny_call_function hr.depth (KX _ _ lk) rfl S.co S.gen rfl (PySem.W.codeRec_of KX hcd) (hb _ _ _ _ ?_)
  refine wpAny_newFunctionEnv_cells S.kind hkind fun env he s1 x => ?_
  subst he
  refine ⟨lim.keeps x.toInCall.keep, codeAny_func ?_⟩
  obtain ⟨t, ht, hq⟩ := hbody A outer s H vs Q E hg (hr.deeper _) hsp
  have I : Inv (cxOf CX P w K mg base N qual scope f cdv A outer s H E) [] (start N vs) H s1 := inv_start S hr.hd e0 hl r x
  refine wpAny_mono (ht.run [] s1 (start N vs) H _ I hq) (fun fl s' hs => ?_) fun e s' hs => hs
  have fin : ∀ {σ' : St} {H' : Hp} {v : V} {u : Value}, Inv (cxOf CX P w K mg base N qual scope f cdv A outer s H E) [] σ' H' s' → RelV v u → Q v H' → CE outer P w H s Q u s' :=
    fun {σ' H' v u} J rv q => ⟨v, H', J.os, J.bare, J.base, J.hok, rv, q⟩
  cases fl with
  | ret u =>
    obtain ⟨v, σ', H', J, rv, q⟩ := hs
    exact fin J rv q
  | next =>
    obtain ⟨σ', H', J, q⟩ := hs
    exact fin (v := V.non) (u := Value.none) J rfl q
  | brk =>
    obtain ⟨_, _, _, q⟩ := hs
    exact False.elim q
  | cont =>
    obtain ⟨_, _, _, q⟩ := hs
    exact False.elim q
section
variable {X : Cx} {CX : CXT} {k : Nat} {f C : Addr} {fd : FuncData} {ps : List Str} {sp : Sp} {dvs : List V} {ds : List Value} {E : St → XK} {x m : Str} {p pos apos : Pos} {e o : Expr} {es : List Expr} {ta : TE} {t : TA}
theorem run_fnG {pins : List (Addr × Obj)} {σ : St} {H : Hp} {s : Shared} {Q : VK} {us : List Value} {vs : List V} (F : FnG X.prog X.w X.K X.mg X.base CX k f fd ps sp) (hG : X.A.guards = some []) (hr : Room k X.A) (hb : L2.Binds X.K fd ps ds) (hd : Vals dvs ds) (hx : PassesAt CX X σ (E σ))
    (I : Inv X pins σ H s) (r : Vals vs us) (h : sp (vs ++ dvs) H Q (E σ)) : wpAny (model X.prog X.w) X.A (call (.ref f) us) (EP X pins σ Q) X.xe s := by
  have r2 : Vals (vs ++ dvs) (us ++ ds) := r.append hd
  have hl : (us ++ ds).length = ps.length := by rw [← r2.length]; exact F.len _ _ _ _ h
  refine wpAny_call (codeAny_mono (F.run X.A X.stack s H ⟨us, []⟩ (us ++ ds) (vs ++ dvs) Q (E σ) hG hr I.env0 (hb s us I.kIn hl) r2 h) fun r s' hq => ?_)
  cases r with
  | error e => exact hx pins H s e s' I hq
  | ok fl =>
    cases fl with
    | ret u => exact I.after hq
    | next => exact False.elim hq
    | brk => exact False.elim hq
    | cont => exact False.elim hq
theorem pe_callG (F : FnG X.prog X.w X.K X.mg X.base CX k f fd ps sp) (hG : X.A.guards = some []) (hr : Room k X.A) (hg : Gl X x) (hm : X.mg x = some (.ref f)) (hk : PySem.W.keepIn X.K (.ref f) = true) (hb : L2.Binds X.K fd ps ds) (hd : Vals dvs ds) (hx : ∀ σ, PassesAt CX X σ (E σ))
    (ha : PA X (e :: es) t) (hdb : (x == ("__debug__" : Str)) = false := by decide) (he : starEach (e :: es) X.env = (false, eval e X.env) :: starEach es X.env := by rfl) (hpl : (backTo pos (starEach es X.env)).any (·.1) = false := by rfl) :
    PE X (.Call (.Name x p) (e :: es) [] pos) (tCallSD sp dvs E t) := by
  refine ⟨fun pins s σ H Q I h => ?_⟩
  refine wpAny_Call_Name_kw (ld_glob I hg hm ?_ hdb)
  refine PySem.W.callWith_K (h₀ := X.base) I.ok.mod.kin hk (thn (ha.run pos pins s σ H _ I h) fun us s1 ⟨vs, H1, I1, r, q⟩ => ⟨I1.kIn, ?_⟩) he hpl
  exact run_fnG F hG hr hb hd (hx σ) I1 r q
theorem pe_callG0 (F : FnG X.prog X.w X.K X.mg X.base CX k f fd ps sp) (hG : X.A.guards = some []) (hr : Room k X.A) (hg : Gl X x) (hm : X.mg x = some (.ref f)) (hk : PySem.W.keepIn X.K (.ref f) = true) (hb : L2.Binds X.K fd ps ds) (hd : Vals dvs ds) (hx : ∀ σ, PassesAt CX X σ (E σ))
    (hdb : (x == ("__debug__" : Str)) = false := by decide) : PE X (.Call (.Name x p) [] [] pos) (tCallSD sp dvs E tNil) := by
  refine ⟨fun pins s σ H Q I h => ?_⟩
  refine wpAny_Call_Name_kw (ld_glob I hg hm ?_ hdb)
  exact PySem.W.callWith_K0 I.kIn hk (run_fnG (us := []) F hG hr hb hd (hx σ) I .nil h)
/-- o.m(e, ..) -/
def tMethG (C : Addr) (m : Str) (sp : Sp) (dvs : List V) (E : St → XK) (ta : TE) (t : TA) : TE := fun σ H Q => ta σ H fun x H1 => ∃ a dx fs, x = .ref a ∧ H1 a = some (.ins C dx fs) ∧ fs.lookup m = none ∧
  t σ H1 fun vs H2 => sp (x :: (vs ++ dvs)) H2 Q (E σ)
theorem pe_methG {pl : Sem Bool} (he : PE X o ta) (c : Cls X.K C) (hm : Meth X.K C m f) (F : FnG X.prog X.w X.K X.mg X.base CX k f fd ps sp) (hG : X.A.guards = some []) (hr : Room k X.A) (hb : L2.Binds X.K fd ps ds) (hd : Vals dvs ds) (hx : ∀ σ, PassesAt CX X σ (E σ)) (ha : PA X (e :: es) t)
    (hst : starEach (e :: es) X.env = (false, eval e X.env) :: starEach es X.env := by rfl) (hpl : (backTo pos (starEach es X.env)).any (·.1) = false := by rfl)
    (ht : eval (.Call (.Attribute o m apos) (e :: es) [] pos) X.env = (do
      let ov ← eval o X.env
      standAt apos.atName
      let (f, first) ← holding [ov] (getMethod ov m pl)
      callWith pos f first (backTo pos (starEach (e :: es) X.env)) (backToKw pos (keywordEach [] X.env))) := by rfl) :
    PE X (.Call (.Attribute o m apos) (e :: es) [] pos) (tMethG C m sp dvs E ta t) := by
  refine ⟨fun pins s σ H Q I h => ?_⟩
  refine PySem.W.methodCall_KW (pl := pl) (thn (he.run pins s σ H _ I h) fun u s1 ⟨x, H1, I1, rx, a, dx, fs, ex, ea, l, q⟩ => ?_) ht
  subst ex
  obtain rfl : u = Value.ref a := rx
  refine getmeth_ok I1 ea c hm l ?_
  refine PySem.W.callWith_K (first := [.ref a]) (h₀ := X.base) I.ok.mod.kin hm.kp (thn (ha.run pos pins s1 σ H1 _ I1 q) fun us s2 ⟨vs, H2, I2, r, q2⟩ => ⟨I2.kIn, ?_⟩) hst hpl
  exact run_fnG (us := .ref a :: us) (vs := .ref a :: vs) F hG hr hb hd (hx σ) I2 (.cons rfl r) q2
/-- o.m() -/
theorem pe_methG0 {pl : Sem Bool} (he : PE X o ta) (c : Cls X.K C) (hm : Meth X.K C m f) (F : FnG X.prog X.w X.K X.mg X.base CX k f fd ps sp) (hG : X.A.guards = some []) (hr : Room k X.A) (hb : L2.Binds X.K fd ps ds) (hd : Vals dvs ds) (hx : ∀ σ, PassesAt CX X σ (E σ))
    (ht : eval (.Call (.Attribute o m apos) [] [] pos) X.env = (do
      let ov ← eval o X.env
      standAt apos.atName
      let (f, first) ← holding [ov] (getMethod ov m pl)
      callWith pos f first (backTo pos (starEach [] X.env)) (backToKw pos (keywordEach [] X.env))) := by rfl) :
    PE X (.Call (.Attribute o m apos) [] [] pos) (tMethG C m sp dvs E ta tNil) := by
  refine ⟨fun pins s σ H Q I h => ?_⟩
  refine PySem.W.methodCall_KW (pl := pl) (thn (he.run pins s σ H _ I h) fun u s1 ⟨x, H1, I1, rx, a, dx, fs, ex, ea, l, q⟩ => ?_) ht
  subst ex
  obtain rfl : u = Value.ref a := rx
  refine getmeth_ok I1 ea c hm l ?_
  exact PySem.W.callWith_K0 (first := [.ref a]) I1.kIn hm.kp (run_fnG (us := [.ref a]) (vs := [.ref a]) F hG hr hb hd (hx σ) I1 (.cons rfl .nil) q)
theorem make_guards {A : Around} {C : Addr} {us : List Value} {kw : List (Str × Value)} : (A.under (.builtin "type.__call__" ⟨.ref C :: us, kw⟩)).guards = A.guards := by
  first | rfl | simp [Around.under, Code.guards, Code.isGuard, guardIds, pushGuards]
/-- C(..): a new instance and its dict, then __init__ -/
def tMakeG (C : Addr) (sp : Sp) (dvs : List V) (E : St → XK) (t : TA) : TE := fun σ H Q => t σ H fun vs H1 => ∀ x dx, H1 x = none → H1 dx = none → dx ≠ x →
  sp (.ref x :: (vs ++ dvs)) (upd (upd H1 dx (.own x)) x (.ins C dx [])) (fun v H2 => v = .non ∧ Q (.ref x) H2) (E σ)
theorem run_makeG {pins : List (Addr × Obj)} {σ : St} {H : Hp} {s : Shared} {Q : VK} {us : List Value} {vs : List V} (M : Mk X.K C f) (F : FnG X.prog X.w X.K X.mg X.base CX k f fd ps sp) (hG : X.A.guards = some []) (hr : Room (k + 1) X.A) (hb : L2.Binds X.K fd ps ds) (hd : Vals dvs ds)
    (hx : PassesAt CX X σ (E σ)) (I : Inv X pins σ H s) (r : Vals vs us)
    (h : ∀ x dx, H x = none → H dx = none → dx ≠ x → sp (.ref x :: (vs ++ dvs)) (upd (upd H dx (.own x)) x (.ins C dx [])) (fun v H2 => v = .non ∧ Q (.ref x) H2) (E σ)) :
    wpAny (model X.prog X.w) X.A (call (.ref C) us) (EP X pins σ Q) X.xe s := by
  have hq := h (s.heap.objs.size + 1) s.heap.objs.size (I.hok.fresh (Nat.le_succ _)) (I.hok.fresh (Nat.le_refl _)) (Nat.ne_of_lt (Nat.lt_succ_self _))
  have I2 := Inv.made (C := C) I
  have r2 : Vals (V.ref (s.heap.objs.size + 1) :: (vs ++ dvs)) (Value.ref (s.heap.objs.size + 1) :: (us ++ ds)) := .cons rfl (r.append hd)
  have hl : (Value.ref (s.heap.objs.size + 1) :: us ++ ds).length = ps.length := by
    have e := r2.length
    rw [F.len _ _ _ _ hq] at e
    exact e.symm
  refine wpAny_call (make_map (f := f) I.kIn M.makes M.init (beq_iff_eq.mp M.fn) (codeAny_mono (F.run _ X.stack _ _ ⟨Value.ref (s.heap.objs.size + 1) :: us, []⟩ (Value.ref (s.heap.objs.size + 1) :: (us ++ ds)) _ _ (E σ) (by rw [make_guards]; exact hG) (hr.make C us [])
    (I2.env0.make C us []) (hb _ (Value.ref (s.heap.objs.size + 1) :: us) I2.kIn hl) r2 hq) fun r s' hq' => ?_))
  cases r with
  | error e => exact hx pins _ _ e s' I2 hq'
  | ok fl =>
    cases fl with
    | ret u =>
      obtain ⟨v, H', I3, rv, ev, q3⟩ := I2.after hq'
      subst ev
      exact ⟨rv, ⟨V.ref (s.heap.objs.size + 1), H', I3, rfl, q3⟩⟩
    | next => exact False.elim hq'
    | brk => exact False.elim hq'
    | cont => exact False.elim hq'
theorem pe_makeG (M : Mk X.K C f) (F : FnG X.prog X.w X.K X.mg X.base CX k f fd ps sp) (hG : X.A.guards = some []) (hr : Room (k + 1) X.A) (hg : Gl X x) (hm : X.mg x = some (.ref C)) (hb : L2.Binds X.K fd ps ds) (hd : Vals dvs ds) (hx : ∀ σ, PassesAt CX X σ (E σ))
    (ha : PA X (e :: es) t) (hdb : (x == ("__debug__" : Str)) = false := by decide) (he : starEach (e :: es) X.env = (false, eval e X.env) :: starEach es X.env := by rfl) (hpl : (backTo pos (starEach es X.env)).any (·.1) = false := by rfl) :
    PE X (.Call (.Name x p) (e :: es) [] pos) (tMakeG C sp dvs E t) := by
  refine ⟨fun pins s σ H Q I h => ?_⟩
  refine wpAny_Call_Name_kw (ld_glob I hg hm ?_ hdb)
  refine PySem.W.callWith_K (h₀ := X.base) I.ok.mod.kin M.kp (thn (ha.run pos pins s σ H _ I h) fun us s1 ⟨vs, H1, I1, r, q⟩ => ⟨I1.kIn, ?_⟩) he hpl
  exact run_makeG M F hG hr hb hd (hx σ) I1 r q
theorem pe_makeG0 (M : Mk X.K C f) (F : FnG X.prog X.w X.K X.mg X.base CX k f fd ps sp) (hG : X.A.guards = some []) (hr : Room (k + 1) X.A) (hg : Gl X x) (hm : X.mg x = some (.ref C)) (hb : L2.Binds X.K fd ps ds) (hd : Vals dvs ds) (hx : ∀ σ, PassesAt CX X σ (E σ))
    (hdb : (x == ("__debug__" : Str)) = false := by decide) : PE X (.Call (.Name x p) [] [] pos) (tMakeG C sp dvs E tNil) := by
  refine ⟨fun pins s σ H Q I h => ?_⟩
  refine wpAny_Call_Name_kw (ld_glob I hg hm ?_ hdb)
  exact PySem.W.callWith_K0 I.kIn M.kp (run_makeG (us := []) M F hG hr hb hd (hx σ) I .nil h)
end

/-! ### promises over data -/
def pK : List (Option OP) → List V → List SK
  | none :: ks, _ :: vs => .sh :: pK ks vs
  | some o :: ks, v :: vs => .ow (fun x => x = v) o :: pK ks vs
  | _, _ => []
def rK : List (Option OP) → List V → Nat → List SK
  | none :: ks, _ :: vs, m => .no :: rK ks vs m
  | some o :: ks, v :: vs, m => .ow (fun x => x = v) o :: rK ks vs m
  | _, _, m => List.replicate m .no
def outK : List (Option OP) → Ev → Ev → Ev
  | none :: ks, d :: ds, _ :: es => d :: outK ks ds es
  | some _ :: ks, _ :: ds, e :: es => e :: outK ks ds es
  | _, _, _ => []
def AftF (K : PySem.W.Frag) (mg : Str → Option Value) (ks : List (Option OP)) (rk : RK) (vs : List V) (H : Hp) (G : Nat → List Addr) (Q : VK) (E : XK) : RS PyData → Prop
  | .ok r ρ' => ∀ v H' G' F, FR K (pK ks vs) ρ' (vs.map some) H' G' → Rel H (Own (pK ks vs) G) H' (fun b => b ∈ F ∨ Own (pK ks vs) G' b) → ResOk K rk H' v r F → (∀ b ∈ F, ¬ Own (pK ks vs) G' b) → Q v H'
  | .ex c p ρ' => ∀ cls dd H' G', ExcOk K mg c p cls dd H' → FR K (pK ks vs) ρ' (vs.map some) H' G' → Rel H (Own (pK ks vs) G) H' (Own (pK ks vs) G') → E cls dd H'
  | .bad => False
def spG (K : PySem.W.Frag) (mg : Str → Option Value) (ks : List (Option OP)) (rk : RK) (D : M PyData) : Sp := fun vs H Q E => vs.length = ks.length ∧ ∃ ρ G, FR K (pK ks vs) ρ (vs.map some) H G ∧ AftF K mg ks rk vs H G Q E (D ρ)
def fnD (ks : List (Option OP)) (m : Nat) (nn : Bool) (body : MS) : M PyData := fun ρ => match body (ρ ++ List.replicate m .none) with
  | .nx ρ' => if nn = true then .ok .none (outK ks ρ ρ') else .bad
  | .rt d ρ' => .ok d (outK ks ρ ρ')
  | .ex c p ρ' => .ex c p (outK ks ρ ρ')
  | _ => .bad
section
variable {K : PySem.W.Frag} {H H' : Hp} {G G' : Nat → List Addr}
theorem pK_len : ∀ {ks : List (Option OP)} {vs : List V}, vs.length = ks.length → (pK ks vs).length = vs.length
  | [], [], _ => rfl
  | none :: ks, v :: vs, h => by rw [pK, List.length_cons, List.length_cons, pK_len (by simpa using h)]
  | some o :: ks, v :: vs, h => by rw [pK, List.length_cons, List.length_cons, pK_len (by simpa using h)]
theorem FR.more {κ : List SK} {ρ : Ev} {σ : St} (f : FR K κ ρ σ H G) (m : Nat) : FR K (κ ++ List.replicate m .no) (ρ ++ List.replicate m .none) (σ ++ List.replicate m none) H G := by
  have l1 := f.l1
  have l2 := f.l2
  have at_ : ∀ {i : Nat} {k : SK}, (κ ++ List.replicate m .no)[i]? = some k → k = .no ∨ (i < κ.length ∧ κ[i]? = some k) := fun {i k} e => by
    by_cases hi : i < κ.length
    · rw [List.getElem?_append_left hi] at e
      exact .inr ⟨hi, e⟩
    · rw [List.getElem?_append_right (Nat.le_of_not_lt hi), List.getElem?_replicate] at e
      split at e
      · cases e; exact .inl rfl
      · cases e
  refine ⟨by simp [l1], by simp [l2], fun i k e => ?_, fun i j c o c' o' e e' b hb hb' => ?_⟩
  · rcases at_ e with z | ⟨hi, z⟩
    · rw [z]; trivial
    · rw [List.getElem?_append_left (by omega), List.getElem?_append_left (by omega)]
      exact f.ok i k z
  · rcases at_ e with z | ⟨hi, z⟩
    · cases z
    · rcases at_ e' with z' | ⟨hi', z'⟩
      · cases z'
      · exact f.dj i j c o c' o' z z' b hb hb'
theorem Own.more {κ : List SK} {m : Nat} {b : Addr} : Own (κ ++ List.replicate m .no) G b ↔ Own κ G b := by
  constructor
  · rintro ⟨i, c, o, e, hb⟩
    by_cases hi : i < κ.length
    · rw [List.getElem?_append_left hi] at e
      exact ⟨i, c, o, e, hb⟩
    · rw [List.getElem?_append_right (Nat.le_of_not_lt hi), List.getElem?_replicate] at e
      split at e <;> cases e
  · rintro ⟨i, c, o, e, hb⟩
    exact ⟨i, c, o, by rw [List.getElem?_append_left (List.getElem?_eq_some_iff.mp e).1]; exact e, hb⟩
theorem own_pr {m : Nat} {b : Addr} : ∀ {ks : List (Option OP)} {vs : List V} {G : Nat → List Addr}, Own (pK ks vs) G b ↔ Own (rK ks vs m) G b := by
  have nr : ∀ {i : Nat} {c : V → Prop} {o : OP}, (List.replicate m SK.no)[i]? = some (SK.ow c o) → False := fun {i c o} e => by
    rw [List.getElem?_replicate] at e
    split at e <;> cases e
  have sc : ∀ {k : SK} {κ : List SK} {G : Nat → List Addr}, Own (k :: κ) G b ↔ (∃ c o, k = .ow c o ∧ b ∈ G 0) ∨ Own κ (fun i => G (i + 1)) b := fun {k κ G} => by
    constructor
    · rintro ⟨i, c, o, e, hb⟩
      cases i with
      | zero => simp at e; exact .inl ⟨c, o, e, hb⟩
      | succ i => exact .inr ⟨i, c, o, by simpa using e, hb⟩
    · rintro (⟨c, o, rfl, hb⟩ | ⟨i, c, o, e, hb⟩)
      · exact ⟨0, c, o, by simp, hb⟩
      · exact ⟨i + 1, c, o, by simpa using e, hb⟩
  intro ks
  induction ks with
  | nil =>
    intro vs G
    constructor
    · rintro ⟨i, c, o, e, hb⟩; simp [pK] at e
    · rintro ⟨i, c, o, e, hb⟩; exact (nr e).elim
  | cons q ks ih =>
    intro vs G
    cases vs with
    | nil =>
      constructor
      · rintro ⟨i, c, o, e, hb⟩; cases q <;> simp [pK] at e
      · rintro ⟨i, c, o, e, hb⟩; cases q <;> exact (nr e).elim
    | cons v vs =>
      cases q with
      | none =>
        show Own (.sh :: pK ks vs) G b ↔ Own (.no :: rK ks vs m) G b
        rw [sc, sc, ih]
        constructor
        · rintro (⟨c, o, z, _⟩ | z)
          · cases z
          · exact .inr z
        · rintro (⟨c, o, z, _⟩ | z)
          · cases z
          · exact .inr z
      | some o =>
        show Own (.ow _ o :: pK ks vs) G b ↔ Own (.ow _ o :: rK ks vs m) G b
        rw [sc, sc, ih]
theorem FR.tail {k : SK} {κ : List SK} {d : PyData} {ρ : Ev} {x : Option V} {σ : St} (f : FR K (k :: κ) (d :: ρ) (x :: σ) H G) : FR K κ ρ σ H (fun i => G (i + 1)) :=
  ⟨by simpa using f.l1, by simpa using f.l2, fun i s e => by simpa using f.ok (i + 1) s (by simpa using e), fun i j c o c' o' e e' b hb hb' => by
    have := f.dj (i + 1) (j + 1) c o c' o' (by simpa using e) (by simpa using e') b hb hb'
    omega⟩
/-- behind the body: what the caller keeps -/
theorem fr_out {m : Nat} (kp : Kp H H') : ∀ {ks : List (Option OP)} {vs : List V} {ρ ρ' : Ev} {σ' : St} {G G' : Nat → List Addr}, vs.length = ks.length → FR K (pK ks vs) ρ (vs.map some) H G → FR K (rK ks vs m) ρ' σ' H' G' → FR K (pK ks vs) (outK ks ρ ρ') (vs.map some) H' G'
  | [], [], ρ, ρ', σ', G, G', _, f, f' => ⟨rfl, rfl, fun i k e => by simp [pK] at e, fun i j c o c' o' e => by simp [pK] at e⟩
  | q :: ks, v :: vs, ρ, ρ', σ', G, G', hl, f, f' => by
    have hl' : vs.length = ks.length := by simpa using hl
    have l1 := f.l2
    cases ρ with
    | nil => simp at l1
    | cons d ρ =>
      have m1 := f'.l1
      have m2 := f'.l2
      cases σ' with
      | nil => cases q <;> simp [rK] at m1
      | cons x σ' =>
        cases ρ' with
        | nil => simp at m2
        | cons e ρ' =>
          cases q with
          | none =>
            have f : FR K (.sh :: pK ks vs) (d :: ρ) (some v :: vs.map some) H G := f
            have f' : FR K (.no :: rK ks vs m) (e :: ρ') (x :: σ') H' G' := f'
            have ih := fr_out (ks := ks) (vs := vs) kp hl' f.tail f'.tail
            have h0 := f.ok 0 .sh rfl
            refine ⟨by simp [pK, pK_len hl'], by simpa [outK] using ih.l2, fun i k e => ?_, fun i j c o c' o' e e' b hb hb' => ?_⟩
            · cases i with
              | zero =>
                cases e
                obtain ⟨v', d', e1, e2, r⟩ := h0
                exact ⟨v', d', e1, e2, Rp.kp kp _ _ r⟩
              | succ i => exact ih.ok i k e
            · cases i with
              | zero => cases e
              | succ i =>
                cases j with
                | zero => cases e'
                | succ j => rw [ih.dj i j c o c' o' e e' b hb hb']
          | some o =>
            have f : FR K (.ow (fun x => x = v) o :: pK ks vs) (d :: ρ) (some v :: vs.map some) H G := f
            have f' : FR K (.ow (fun x => x = v) o :: rK ks vs m) (e :: ρ') (x :: σ') H' G' := f'
            have ih := fr_out (ks := ks) (vs := vs) kp hl' f.tail f'.tail
            have h0 := f'.ok 0 _ rfl
            obtain ⟨v', d', e1, e2, ev, r⟩ := h0
            have e1 : x = some v' := by simpa using e1
            have e2 : e = d' := by simpa using e2
            have ev : v' = v := ev
            subst e2 ev
            have oz : ∀ {i : Nat} {c : V → Prop} {o' : OP} {b : Addr}, (pK ks vs)[i]? = some (.ow c o') → b ∈ G' (i + 1) → b ∈ G' 0 → False := fun {i c o' b} ei hb h0 => by
              obtain ⟨j, c2, o2, ej, hj⟩ := (own_pr (m := m) (ks := ks) (vs := vs) (b := b) (G := fun i => G' (i + 1))).mp ⟨i, c, o', ei, hb⟩
              have := f'.dj 0 (j + 1) _ _ c2 o2 rfl (by simpa using ej) b h0 hj
              omega
            refine ⟨by simp [pK, pK_len hl'], by simpa [outK] using ih.l2, fun i k e => ?_, fun i j c o c' o' e e' b hb hb' => ?_⟩
            · cases i with
              | zero =>
                cases e
                exact ⟨v', _, rfl, rfl, rfl, r⟩
              | succ i => exact ih.ok i k e
            · cases i with
              | zero =>
                cases j with
                | zero => rfl
                | succ j => exact (oz e' hb' hb).elim
              | succ i =>
                cases j with
                | zero => exact (oz e hb hb').elim
                | succ j => rw [ih.dj i j c o c' o' e e' b hb hb']
end
end G

/-! G12: the rule of a def, calls over data. -/
namespace G
open PySem PySem.Spec PyProof.Rows
open L2 hiding St Inv Binds

/-- what a context must be for calls -/
structure Ce (X : Cx) (W : WX) (k : Nat) : Prop where
  calm : X.calm = true
  gd : X.A.guards = some []
  rm : Room k X.A
  tk : Takes X W
theorem Ce.blk {X : Cx} {W : WX} {k : Nat} (c : Ce X W k) (s : Shared) (H : Hp) (scope : Scope) (env : Env) (fp : List Addr) : Ce (X.blk s H scope env fp) WF k :=
  ⟨c.calm, c.gd, c.rm, fun u s' ⟨a, B, sI, pins, σ, H, cls, d, e, I, nb, up, sky, na, os, ag, w⟩ => w.elim⟩

/-! ### the rule of a def -/
def jF (ks : List (Option OP)) (vs : List V) (m : Nat) (rk : RK) (E : XK) : Jx := ⟨rK ks vs m, rk, rK ks vs m, fun cls d _ H => E cls d H, [], []⟩
theorem start_eq {N : List Str} {vs : List V} {n m : Nat} (h : N.length = n + m) (hl : vs.length = n)   : L2.start N vs = vs.map some ++ List.replicate m none := by
  unfold L2.start
  rw [h, hl, Nat.add_sub_cancel_left]
theorem fnG_ok {P : Program} {w : World} {K : PySem.W.Frag} {mg : Str → Option Value} {base : Heap} {k : Nat} {x qual : Str} {params : Arguments} {body : List Stmt} {scope : Scope} {f : Addr} {fd : FuncData} {N ps : List Str} {ks : List (Option OP)} {m : Nat} {rk : RK} {nn : Bool} {g : MS} {dvs : List V} {kws : List (Str × V)}
    (F : FunD K x qual params body scope dvs kws f fd) (S : FnScope N ps scope) (hl : ps.length = ks.length) (hN : N.length = ks.length + m) (hnn : nn = true → rk = .sh)
    (hb : ∀ (cdv : Value) (A : Around) (outer : List Env) (s : Shared) (H : Hp) (vs : List V) (E : XK), vs.length = ks.length → Ce (cxOf (L2.CX P w) P w K mg base N qual scope f cdv A outer s H E) (fun cls d _ H => E cls d H) k →
      PassesOwn (model P w) (A.deeper (envOfC qual scope s.heap.objs.size f cdv)) (envOfC qual scope s.heap.objs.size f cdv) (cxOf (L2.CX P w) P w K mg base N qual scope f cdv A outer s H E).xe →
      ∃ κn, Wk κn (rK ks vs m) ∧ QSs (cxOf (L2.CX P w) P w K mg base N qual scope f cdv A outer s H E) (jF ks vs m rk E) (pK ks vs ++ List.replicate m .no) κn body g) :
    FnG P w K mg base (L2.CX P w) (k + 1) f fd ps (spG K mg ks rk (fnD ks m nn g)) := by
  obtain ⟨oc, od, dV, kV, doc, pm, an, cdv, ct, osl, rfl, lk, hcd, _, _⟩ := F.ex
  refine fnG_of lk hcd S (fun vs H Q E h => h.1.trans hl.symm) fun A outer s H vs Q E hg hr hsp => ?_
  obtain ⟨hv, ρ, G, fr, aft⟩ := hsp
  obtain ⟨κn, wn, q⟩ := hb cdv A outer s H vs E hv ⟨rfl, hg, hr, takes_of rfl rfl rfl rfl⟩ (passes_of rfl)
  refine ⟨_, q, ρ ++ List.replicate m .none, G, ?_, ?_⟩
  · rw [start_eq hN hv]
    exact fr.more m
  · unfold fnD at aft
    have kpo : ∀ {S' : Addr → Prop} {H' : Hp}, Rel H (Own (pK ks vs ++ List.replicate m .no) G) H' S' → Kp H H' := fun r => (fr.more m).kp r
    have rel : ∀ {S' : Addr → Prop} {H' : Hp}, Rel H (Own (pK ks vs ++ List.replicate m .no) G) H' S' → Rel H (Own (pK ks vs) G) H' S' := fun r => ⟨fun b u hb n => r.keep b u hb fun z => n (Own.more.mp z), fun b z => (r.new b z).imp_left Own.more.mp, r.non⟩
    cases e : g (ρ ++ List.replicate m .none) with
    | nx ρ' =>
      rw [e] at aft
      intro σ' H' G' f' r'
      dsimp only at aft
      cases nn with
      | false => exact aft.elim
      | true =>
        have hk := hnn rfl
        subst hk
        have f2 := f'.weak wn
        exact aft .non H' G' [] (fr_out (kpo r') hv fr f2) (by
          refine ⟨(rel r').keep, fun b z => ?_, r'.non⟩
          rcases z with z | z
          · cases z
          · exact (rel r').new b ((own_pr.mp z).weak wn)) ⟨.non, rfl⟩ fun _ z => nomatch z
    | rt d ρ' =>
      rw [e] at aft
      intro v σ' H' G' F f' r' ok n'
      refine aft v H' G' F (fr_out (kpo r') hv fr f') ⟨(rel r').keep, fun b z => ?_, r'.non⟩ ok fun b hb z => n' b hb (own_pr.mp z)
      rcases z with z | z
      · exact (rel r').new b (.inl z)
      · exact (rel r').new b (.inr (own_pr.mp z))
    | ex c p ρ' =>
      rw [e] at aft
      intro cls dd σ' H' G' x f' r'
      exact aft cls dd H' G' x (fr_out (kpo r') hv fr f') ⟨(rel r').keep, fun b z => (rel r').new b (own_pr.mp z), r'.non⟩
    | bk ρ' => rw [e] at aft; exact aft.elim
    | ct ρ' => rw [e] at aft; exact aft.elim
    | bad => rw [e] at aft; exact aft.elim

/-! ### arguments of a call: shared values, own slots -/
def insIo : List (Option Nat) → List PyData → Ev → Ev
  | none :: is, d :: ds, ρ => d :: insIo is ds ρ
  | some i :: is, _ :: ds, ρ => ρ.getD i .none :: insIo is ds ρ
  | _, _, _ => []
def putIo : List (Option Nat) → Ev → Ev → Ev
  | none :: is, _ :: es, ρ => putIo is es ρ
  | some i :: is, e :: es, ρ => putIo is es (ρ.set i e)
  | _, _, ρ => ρ
inductive Arg (K : PySem.W.Frag) (κ : List SK) (σ : St) (H : Hp) : List (Option OP) → List (Option Nat) → List V → List PyData → Prop
  | nil : Arg K κ σ H [] [] [] []
  | sh {ks is vs ds} {v : V} {d : PyData} : Rp K H v d → Arg K κ σ H ks is vs ds → Arg K κ σ H (none :: ks) (none :: is) (v :: vs) (d :: ds)
  | io {ks is vs ds} {i : Nat} {c : V → Prop} {o : OP} {v : V} {d : PyData} : κ[i]? = some (.ow c o) → σ[i]? = some (some v) → Arg K κ σ H ks is vs ds → Arg K κ σ H (some o :: ks) (some i :: is) (v :: vs) (d :: ds)
def AftP (K : PySem.W.Frag) (mg : Str → Option Value) (κ : List SK) (W : WX) (pu : Bool) (ks : List (Option OP)) (is : List (Option Nat)) (σ : St) (H : Hp) (G : Nat → List Addr) (Q : List V → Hp → Prop) : RS (List PyData) → Prop
  | .ok ds ρ' => ∀ vs H' G', FR K κ ρ' σ H' G' → Rel H (Own κ G) H' (Own κ G') → (pu = true → Same H H') → Arg K κ σ H' ks is vs ds → Q vs H'
  | .ex c p ρ' => ∀ cls dd H' G', ExcOk K mg c p cls dd H' → FR K κ ρ' σ H' G' → Rel H (Own κ G) H' (Own κ G') → W cls dd σ H'
  | .bad => False
def tP (K : PySem.W.Frag) (mg : Str → Option Value) (κ : List SK) (W : WX) (pu : Bool) (ks : List (Option OP)) (is : List (Option Nat)) (f : M (List PyData)) : TA := fun σ H Q => ∃ ρ G, FR K κ ρ σ H G ∧ AftP K mg κ W pu ks is σ H G Q (f ρ)
abbrev QP (X : Cx) (κ : List SK) (W : WX) (pu : Bool) (ks : List (Option OP)) (is : List (Option Nat)) (es : List Expr) (f : M (List PyData)) : Prop := PA X es (tP X.K X.mg κ W pu ks is f)
theorem Arg.kp {K : PySem.W.Frag} {κ : List SK} {σ : St} {H H' : Hp} (k : Kp H H') : ∀ {ks : List (Option OP)} {is : List (Option Nat)} {vs : List V} {ds : List PyData}, Arg K κ σ H ks is vs ds → Arg K κ σ H' ks is vs ds
  | _, _, _, _, .nil => .nil
  | _, _, _, _, .sh r t => .sh (Rp.kp k _ _ r) (Arg.kp k t)
  | _, _, _, _, .io a b t => .io a b (Arg.kp k t)
theorem Arg.len {K : PySem.W.Frag} {κ : List SK} {σ : St} {H : Hp} : ∀ {ks : List (Option OP)} {is : List (Option Nat)} {vs : List V} {ds : List PyData}, Arg K κ σ H ks is vs ds → vs.length = ks.length
  | _, _, _, _, .nil => rfl
  | _, _, _, _, .sh r t => by rw [List.length_cons, List.length_cons, Arg.len t]
  | _, _, _, _, .io a b t => by rw [List.length_cons, List.length_cons, Arg.len t]
section
variable {X : Cx} {κ : List SK} {W : WX} {pa pb : Bool} {ks : List (Option OP)} {is : List (Option Nat)} {a : Expr} {es : List Expr} {fa : M PyData} {fs : M (List PyData)}
theorem qp_nil : QP X κ W true [] [] [] aNil := PA.imp pa_nil fun σ H Q ⟨ρ, G, f, q⟩ => q [] H G f (.refl ..) (fun _ => .refl _) .nil
theorem qp_sh (ha : QE X κ W pa .sh a fa) (hs : QP X κ W pb ks is es fs) (he : starEach (a :: es) X.env = (false, eval a X.env) :: starEach es X.env := by rfl) : QP X κ W (pa && pb) (none :: ks) (none :: is) (a :: es) (aCons fa fs) := by
  refine PA.imp (pa_cons ha hs he) fun σ H Q ⟨ρ, G, f, q⟩ => ⟨ρ, G, f, ?_⟩
  unfold aCons at q
  cases e : fa ρ with
  | bad => rw [e] at q; exact q
  | ex c p ρ' => rw [e] at q; exact q
  | ok d ρ1 =>
    rw [e] at q
    intro v1 H1 G1 F1 f1 r1 s1 ok1 n1
    refine ⟨ρ1, G1, f1, ?_⟩
    dsimp only at q
    cases e2 : fs ρ1 with
    | bad => rw [e2] at q; exact q
    | ex c p ρ' => rw [e2] at q; exact fun cls dd H' G' x f' r' => q cls dd H' G' x f' (r1.trans r')
    | ok ds ρ2 =>
      rw [e2] at q
      exact fun vs H2 G2 f2 r2 s2 ok2 => q (v1 :: vs) H2 G2 f2 (r1.trans r2) (fun hp => (s1 (Bool.and_eq_true_iff.mp hp).1).trans (s2 (Bool.and_eq_true_iff.mp hp).2)) (.sh (Rp.kp (f1.kp r2) _ _ ok1.1) ok2)
def aIo (fs : M (List PyData)) : M (List PyData) := fun ρ => match fs ρ with
  | .ok ds ρ' => .ok (.none :: ds) ρ'
  | .ex c p ρ' => .ex c p ρ'
  | .bad => .bad
theorem qp_io (i : Nat) {x : Str} {pos : Pos} {c : V → Prop} {o : OP} (hk : κ[i]? = some (.ow c o)) (hp : PE X (.Name x pos) (tVar i)) (hs : QP X κ W pb ks is es fs) (he : starEach (.Name x pos :: es) X.env = (false, eval (.Name x pos) X.env) :: starEach es X.env := by rfl) :
    QP X κ W pb (some o :: ks) (some i :: is) (.Name x pos :: es) (aIo fs) := by
  refine PA.imp (pa_cons hp hs he) fun σ H Q ⟨ρ, G, f, q⟩ => ?_
  obtain ⟨v, d, e1, e2, _, _⟩ := f.ok i _ hk
  refine ⟨v, e1, ρ, G, f, ?_⟩
  unfold aIo at q
  cases e : fs ρ with
  | bad => rw [e] at q; exact q
  | ex c p ρ' => rw [e] at q; exact q
  | ok ds ρ1 =>
    rw [e] at q
    exact fun vs H1 G1 f1 r1 s1 ok1 => q (v :: vs) H1 G1 f1 r1 s1 (.io hk e1 ok1)
end

/-! ### the callee's frame from the caller's, and back -/
def gIo (is : List (Option Nat)) (G : Nat → List Addr) : Nat → List Addr := fun j => match is[j]? with
  | some (some i) => G i
  | _ => []
section
variable {K : PySem.W.Frag} {κ : List SK} {ρ : Ev} {σ : St} {H H' : Hp} {G : Nat → List Addr}
/-- the callee's frame; kinds at an index -/
theorem Arg.at {ks : List (Option OP)} {is : List (Option Nat)} {vs : List V} {ds : List PyData} (a : Arg K κ σ H ks is vs ds) : ∀ {j : Nat} {k : SK}, (pK ks vs)[j]? = some k →
    (k = .sh ∧ is[j]? = some none ∧ ∃ v d, vs[j]? = some v ∧ (insIo is ds ρ)[j]? = some d ∧ Rp K H v d) ∨ ∃ (i : Nat) (c : V → Prop) (o : OP) (v : V), k = .ow (fun x => x = v) o ∧ is[j]? = some (some i) ∧ κ[i]? = some (.ow c o) ∧ σ[i]? = some (some v) ∧ vs[j]? = some v ∧ (insIo is ds ρ)[j]? = some (ρ.getD i .none) := by
  induction a with
  | nil => intro j k e; simp [pK] at e
  | sh r t ih =>
    intro j k e
    cases j with
    | zero => cases e; exact .inl ⟨rfl, rfl, _, _, rfl, rfl, r⟩
    | succ j => exact ih e
  | @io ks is vs ds i c o v d h1 h2 t ih =>
    intro j k e
    cases j with
    | zero => cases e; exact .inr ⟨i, c, o, v, rfl, rfl, h1, h2, rfl, rfl⟩
    | succ j => exact ih e
theorem Arg.len2 {ks : List (Option OP)} {is : List (Option Nat)} {vs : List V} {ds : List PyData} (a : Arg K κ σ H ks is vs ds) : (insIo is ds ρ).length = vs.length := by
  induction a with
  | nil => rfl
  | sh r t ih => rw [insIo, List.length_cons, List.length_cons, ih]
  | io h1 h2 t ih => rw [insIo, List.length_cons, List.length_cons, ih]
/-- no slot is given twice -/
def NoTwice (is : List (Option Nat)) : Prop := ∀ (j j' i : Nat), is[j]? = some (some i) → is[j']? = some (some i) → j = j'
theorem fr_in {ks : List (Option OP)} {is : List (Option Nat)} {vs : List V} {ds : List PyData} (f : FR K κ ρ σ H G) (a : Arg K κ σ H ks is vs ds) (nt : NoTwice is) : FR K (pK ks vs) (insIo is ds ρ) (vs.map some) H (gIo is G) := by
  refine ⟨by rw [pK_len a.len, List.length_map], by rw [a.len2, List.length_map], fun j k e => ?_, fun j j' c o c' o' e e' b hb hb' => ?_⟩
  · rcases a.at (ρ := ρ) e with ⟨rfl, _, v, d, h1, h2, h3⟩ | ⟨i, c, o, v, rfl, h0, h1, h2, h3, h4⟩
    · exact ⟨v, d, by rw [List.getElem?_map, h1]; rfl, h2, h3⟩
    · obtain ⟨v', d, e1, e2, _, hp⟩ := f.ok i _ h1
      rw [h2] at e1; cases e1
      refine ⟨v, d, by rw [List.getElem?_map, h3]; rfl, ?_, rfl, ?_⟩
      · rw [h4, List.getD_eq_getElem?_getD, e2]; rfl
      · unfold gIo; rw [h0]; exact hp
  · rcases a.at (ρ := ρ) e with ⟨z, _⟩ | ⟨i, c1, o1, v, z, h0, h1, _⟩
    · cases z
    · rcases a.at (ρ := ρ) e' with ⟨z', _⟩ | ⟨i', c2, o2, v', z', h0', h1', _⟩
      · cases z'
      · unfold gIo at hb hb'
        rw [h0] at hb
        rw [h0'] at hb'
        have q := f.dj i i' _ _ _ _ h1 h1' b hb hb'
        subst q
        exact nt j j' i h0 h0'
theorem own_in {ks : List (Option OP)} {is : List (Option Nat)} {vs : List V} {ds : List PyData} (a : Arg K κ σ H ks is vs ds) {b : Addr} (h : Own (pK ks vs) (gIo is G) b) : ∃ (i : Nat) (c : V → Prop) (o : OP), κ[i]? = some (.ow c o) ∧ b ∈ G i ∧ ∃ j : Nat, is[j]? = some (some i) := by
  obtain ⟨j, c, o, e, hb⟩ := h
  rcases a.at (ρ := ([] : Ev)) e with ⟨z, _⟩ | ⟨i, c1, o1, v, z, h0, h1, _⟩
  · cases z
  · unfold gIo at hb
    rw [h0] at hb
    exact ⟨i, _, _, h1, hb, j, h0⟩
/-- the slot's place among the arguments -/
def ixIo : List (Option Nat) → Nat → Option Nat
  | [], _ => none
  | none :: is, i => (ixIo is i).map (· + 1)
  | some i' :: is, i => if i' = i then some 0 else (ixIo is i).map (· + 1)
theorem ixIo_some : ∀ {is : List (Option Nat)} {i j : Nat}, ixIo is i = some j → is[j]? = some (some i)
  | none :: is, i, j, e => by
    unfold ixIo at e
    cases q : ixIo is i with
    | none => rw [q] at e; cases e
    | some j' => rw [q] at e; cases e; simpa using ixIo_some q
  | some i' :: is, i, j, e => by
    unfold ixIo at e
    split at e
    · rename_i h; cases e; subst h; rfl
    · cases q : ixIo is i with
      | none => rw [q] at e; cases e
      | some j' => rw [q] at e; cases e; simpa using ixIo_some q
theorem ixIo_none : ∀ {is : List (Option Nat)} {i : Nat}, ixIo is i = none → ∀ j : Nat, is[j]? ≠ some (some i)
  | [], i, _, j => by simp
  | none :: is, i, e, j => by
    unfold ixIo at e
    have e : ixIo is i = none := by
      cases q : ixIo is i with
      | none => rfl
      | some j' => rw [q] at e; cases e
    cases j with
    | zero => simp
    | succ j => simpa using ixIo_none e j
  | some i' :: is, i, e, j => by
    unfold ixIo at e
    split at e
    · cases e
    · rename_i hne
      have e : ixIo is i = none := by
        cases q : ixIo is i with
        | none => rfl
        | some j' => rw [q] at e; cases e
      cases j with
      | zero => simp [hne]
      | succ j => simpa using ixIo_none e j
theorem putIo_len : ∀ (is : List (Option Nat)) (es ρ : Ev), (putIo is es ρ).length = ρ.length
  | [], _, _ => by simp [putIo]
  | none :: is, [], ρ => by simp [putIo]
  | none :: is, e :: es, ρ => by rw [putIo]; exact putIo_len is es ρ
  | some i :: is, [], ρ => by simp [putIo]
  | some i :: is, e :: es, ρ => by rw [putIo, putIo_len is es, List.length_set]
theorem putIo_out : ∀ {is : List (Option Nat)} {es ρ : Ev} {i : Nat}, (∀ j : Nat, is[j]? ≠ some (some i)) → (putIo is es ρ)[i]? = ρ[i]?
  | [], _, _, _, _ => by simp [putIo]
  | none :: is, [], ρ, _, _ => by simp [putIo]
  | none :: is, e :: es, ρ, i, h => by
    rw [putIo]
    exact putIo_out fun j z => h (j + 1) (by simpa using z)
  | some i' :: is, [], ρ, _, _ => by simp [putIo]
  | some i' :: is, e :: es, ρ, i, h => by
    rw [putIo, putIo_out fun j z => h (j + 1) (by simpa using z), List.getElem?_set_ne]
    intro z
    exact h 0 (by simp [z])
theorem putIo_in : ∀ {is : List (Option Nat)} {es ρ : Ev} {i j : Nat} {d : PyData}, NoTwice is → is[j]? = some (some i) → es[j]? = some d → i < ρ.length → (putIo is es ρ)[i]? = some d
  | [], _, _, _, _, _, _, h, _, _ => by simp at h
  | _ :: is, [], ρ, _, _, _, _, _, h, _ => by simp at h
  | none :: is, e :: es, ρ, i, j, d, nt, h, he, hl => by
    rw [putIo]
    cases j with
    | zero => simp at h
    | succ j => exact putIo_in (fun a b i ha hb => by have := nt (a + 1) (b + 1) i (by simpa using ha) (by simpa using hb); omega) (by simpa using h) (by simpa using he) hl
  | some i' :: is, e :: es, ρ, i, j, d, nt, h, he, hl => by
    rw [putIo]
    cases j with
    | zero =>
      simp at h he
      subst h he
      rw [putIo_out, List.getElem?_set_self hl]
      intro j z
      have := nt 0 (j + 1) i' (by simp) (by simpa using z)
      omega
    | succ j => exact putIo_in (fun a b i ha hb => by have := nt (a + 1) (b + 1) i (by simpa using ha) (by simpa using hb); omega) (by simpa using h) (by simpa using he) (by rw [List.length_set]; exact hl)
def gOut (is : List (Option Nat)) (G G2 : Nat → List Addr) : Nat → List Addr := fun i => match ixIo is i with
  | some j => G2 j
  | none => G i
theorem pK_io {ks : List (Option OP)} {is : List (Option Nat)} {vs : List V} {ds : List PyData} (a : Arg K κ σ H ks is vs ds) : ∀ {j i : Nat}, is[j]? = some (some i) → ∃ c o v, κ[i]? = some (.ow c o) ∧ σ[i]? = some (some v) ∧ vs[j]? = some v ∧ (pK ks vs)[j]? = some (.ow (fun x => x = v) o) := by
  induction a with
  | nil => intro j i e; simp at e
  | sh r t ih =>
    intro j i e
    cases j with
    | zero => simp at e
    | succ j => exact ih (by simpa using e)
  | @io ks is vs ds i' c o v d h1 h2 t ih =>
    intro j i e
    cases j with
    | zero => simp at e; subst e; exact ⟨c, o, v, h1, h2, rfl, rfl⟩
    | succ j => exact ih (by simpa using e)
/-- behind the call -/
theorem fr_back {ks : List (Option OP)} {is : List (Option Nat)} {vs : List V} {ds : List PyData} {es : Ev} {G2 : Nat → List Addr} {S' : Addr → Prop} (f : FR K κ ρ σ H G) (a : Arg K κ σ H ks is vs ds) (nt : NoTwice is)
    (f2 : FR K (pK ks vs) es (vs.map some) H' G2) (r : Rel H (Own (pK ks vs) (gIo is G)) H' S') (hS : ∀ b, Own (pK ks vs) G2 b → S' b) : FR K κ (putIo is es ρ) σ H' (gOut is G G2) ∧ Rel H (Own κ G) H' (fun b => Own κ (gOut is G G2) b) ∧ ∀ b, S' b → Own κ G b ∨ H b = none := by
  have kp : Kp H H' := (fr_in f a nt).kp r
  have fro : ∀ {i : Nat} {c : V → Prop} {o : OP} {b : Addr}, κ[i]? = some (.ow c o) → ixIo is i = none → b ∈ G i → ¬ Own (pK ks vs) (gIo is G) b := fun {i c o b} e ei hb z => by
    obtain ⟨i', c', o', e', hb', j, hj⟩ := own_in a z
    have q := f.dj i i' _ _ _ _ e e' b hb hb'
    subst q
    exact ixIo_none ei j hj
  have nw : ∀ b, S' b → Own κ G b ∨ H b = none := fun b z => (r.new b z).imp_left fun q => by
    obtain ⟨i', c', o', e', hb', _⟩ := own_in a q
    exact ⟨i', c', o', e', hb'⟩
  have ou : ∀ {i : Nat} {c : V → Prop} {o : OP} {b : Addr}, κ[i]? = some (.ow c o) → b ∈ gOut is G G2 i → (∃ j, ixIo is i = some j ∧ b ∈ G2 j ∧ Own (pK ks vs) G2 b) ∨ (ixIo is i = none ∧ b ∈ G i) := fun {i c o b} e hb => by
    unfold gOut at hb
    cases q : ixIo is i with
    | none => rw [q] at hb; exact .inr ⟨rfl, hb⟩
    | some j =>
      rw [q] at hb
      obtain ⟨c', o', v, h1, h2, h3, h4⟩ := pK_io a (ixIo_some q)
      exact .inl ⟨j, rfl, hb, j, _, _, h4, hb⟩
  refine ⟨⟨f.l1, by rw [putIo_len]; exact f.l2, fun i k e => ?_, fun i i' c o c' o' e e' b hb hb' => ?_⟩, ⟨fun b u hb n => r.keep b u hb fun z => n ?_, fun b z => ?_, r.non⟩, nw⟩
  · cases k with
    | no => trivial
    | sh =>
      obtain ⟨v, d, e1, e2, h1⟩ := f.ok i _ e
      refine ⟨v, d, e1, ?_, Rp.kp kp _ _ h1⟩
      rw [putIo_out]
      · exact e2
      · intro j z
        obtain ⟨_, _, _, h1, _⟩ := pK_io a z
        rw [e] at h1; cases h1
    | ow c o =>
      obtain ⟨v, d, e1, e2, h0, h1⟩ := f.ok i _ e
      cases q : ixIo is i with
      | none =>
        refine ⟨v, d, e1, ?_, h0, ?_⟩
        · rw [putIo_out (ixIo_none q)]; exact e2
        · unfold gOut
          rw [q]
          refine o.frame h1 (fun b hb => ?_) kp
          obtain ⟨u, eu, _⟩ := o.live h1 b hb
          rw [eu]
          exact r.keep b u eu (fro e q hb)
      | some j =>
        obtain ⟨c', o', v', g1, g2, g3, g4⟩ := pK_io a (ixIo_some q)
        rw [e] at g1; cases g1
        rw [e1] at g2; cases g2
        obtain ⟨v2, d2, q1, q2, q3, q4⟩ := f2.ok j _ g4
        subst q3
        refine ⟨v2, d2, e1, putIo_in nt (ixIo_some q) q2 (by rw [f.l2]; exact (List.getElem?_eq_some_iff.mp e1).1), h0, ?_⟩
        unfold gOut
        rw [q]
        exact q4
  · rcases ou e hb with ⟨j, q, h, ho⟩ | ⟨q, h⟩
    · rcases ou e' hb' with ⟨j', q', h', ho'⟩ | ⟨q', h'⟩
      · obtain ⟨_, _, _, _, _, _, g4⟩ := pK_io a (ixIo_some q)
        obtain ⟨_, _, _, _, _, _, g4'⟩ := pK_io a (ixIo_some q')
        have := f2.dj j j' _ _ _ _ g4 g4' b h h'
        subst this
        have z1 := ixIo_some q
        have z2 := ixIo_some q'
        rw [z1] at z2
        cases z2; rfl
      · rcases r.new b (hS b ho) with z | z
        · exact (fro e' q' h' z).elim
        · obtain ⟨u, eu, _⟩ := f.live ⟨i', _, _, e', h'⟩
          rw [z] at eu; cases eu
    · rcases ou e' hb' with ⟨j', q', h', ho'⟩ | ⟨q', h'⟩
      · rcases r.new b (hS b ho') with z | z
        · exact (fro e q h z).elim
        · obtain ⟨u, eu, _⟩ := f.live ⟨i, _, _, e, h⟩
          rw [z] at eu; cases eu
      · exact f.dj i i' _ _ _ _ e e' b h h'
  · obtain ⟨i', c', o', e', hb', _⟩ := own_in a z
    exact ⟨i', c', o', e', hb'⟩
  · obtain ⟨i, c, o, e, hb⟩ := z
    rcases ou e hb with ⟨j, q, h, ho⟩ | ⟨q, h⟩
    · exact nw b (hS b ho)
    · exact .inl ⟨i, c, o, e, h⟩
/-- what has come stands apart from what is owned behind -/
theorem back_apart {ks : List (Option OP)} {is : List (Option Nat)} {vs : List V} {ds : List PyData} {G2 : Nat → List Addr} {S' : Addr → Prop} (f : FR K κ ρ σ H G) (a : Arg K κ σ H ks is vs ds)
    (r : Rel H (Own (pK ks vs) (gIo is G)) H' S') {b : Addr} (hb : S' b) (n : ¬ Own (pK ks vs) G2 b) : ¬ Own κ (gOut is G G2) b := by
  rintro ⟨i, c, o, e, h⟩
  unfold gOut at h
  cases q : ixIo is i with
  | some j =>
    rw [q] at h
    obtain ⟨_, _, _, _, _, _, g4⟩ := pK_io a (ixIo_some q)
    exact n ⟨j, _, _, g4, h⟩
  | none =>
    rw [q] at h
    rcases r.new b hb with z | z
    · obtain ⟨i', c', o', e', hb', j, hj⟩ := own_in a z
      have q2 := f.dj i i' _ _ _ _ e e' b h hb'
      subst q2
      exact ixIo_none q j hj
    · obtain ⟨u, eu, _⟩ := f.live ⟨i, _, _, e, h⟩
      rw [z] at eu; cases eu
end
def eCall (is : List (Option Nat)) (fa : M (List PyData)) (D : M PyData) : M PyData := fun ρ => match fa ρ with
  | .ok ds ρ1 => (match D (insIo is ds ρ1) with
    | .ok r es => .ok r (putIo is es ρ1)
    | .ex c p es => .ex c p (putIo is es ρ1)
    | .bad => .bad)
  | .ex c p ρ' => .ex c p ρ'
  | .bad => .bad
def allN (is : List (Option Nat)) : Bool := is.all fun i => i.isNone
section
variable {K : PySem.W.Frag} {mg : Str → Option Value} {κ : List SK} {W : WX} {pu : Bool} {ks : List (Option OP)} {is : List (Option Nat)} {rk : RK} {D : M PyData} {fa : M (List PyData)}
/-- the step of a call -/
theorem call_step (nt : NoTwice is) {σ : St} {H0 H : Hp} {G0 G : Nat → List Addr} {ρ : Ev} {vs : List V} {ds : List PyData} {Q : VK} (r0 : Rel H0 (Own κ G0) H (Own κ G)) (s0 : pu = true → Same H0 H) (f : FR K κ ρ σ H G) (a : Arg K κ σ H ks is vs ds)
    (h : AftE K mg κ W (pu && allN is) rk σ H0 G0 Q (match D (insIo is ds ρ) with
      | .ok r es => .ok r (putIo is es ρ)
      | .ex c p es => .ex c p (putIo is es ρ)
      | .bad => .bad)) : spG K mg ks rk D vs H Q (WE W σ) := by
  refine ⟨a.len, insIo is ds ρ, gIo is G, fr_in f a nt, ?_⟩
  cases e : D (insIo is ds ρ) with
  | bad => rw [e] at h; exact h
  | ok r es =>
    rw [e] at h
    intro v H' G2 F f2 r2 ok n2
    obtain ⟨fb, rb, nw⟩ := fr_back f a nt f2 r2 fun b z => .inr z
    refine h v H' _ F fb (r0.trans rb) (fun hp => ?_) ok fun b hb => ⟨?_, back_apart f a r2 (.inl hb) (n2 b hb)⟩
    · rw [Bool.and_eq_true] at hp
      refine (s0 hp.1).trans fun b u hb => r2.keep b u hb fun z => ?_
      obtain ⟨i', _, _, _, _, j, hj⟩ := own_in a z
      have := List.all_eq_true.mp hp.2 _ (List.mem_of_getElem? hj)
      cases this
    · rcases nw b (.inl hb) with z | z
      · exact r0.new b z
      · exact .inr (r0.non b z)
  | ex c p es =>
    rw [e] at h
    intro cls dd H' G2 x f2 r2
    obtain ⟨fb, rb, nw⟩ := fr_back f a nt f2 r2 fun b z => z
    exact h cls dd H' _ x fb (r0.trans rb)
theorem call_ok (nt : NoTwice is) {σ : St} {H : Hp} {Q : VK} (h : tE K mg κ W (pu && allN is) rk (eCall is fa D) σ H Q) : tCallSD (spG K mg ks rk D) [] (WE W) (tP K mg κ W pu ks is fa) σ H Q := by
  obtain ⟨ρ, G, f, q⟩ := h
  refine ⟨ρ, G, f, ?_⟩
  unfold eCall at q
  cases e : fa ρ with
  | bad => rw [e] at q; exact q
  | ex c p ρ' => rw [e] at q; exact q
  | ok ds ρ1 =>
    rw [e] at q
    intro vs H1 G1 f1 r1 s1 a
    rw [List.append_nil]
    exact call_step nt r1 s1 f1 a q
end
section
variable {X : Cx} {κ : List SK} {W : WX} {pu : Bool} {k k' : Nat} {f : Addr} {fd : FuncData} {ps : List Str} {ks : List (Option OP)} {is : List (Option Nat)} {rk : RK} {D : M PyData} {fa : M (List PyData)} {x : Str} {p pos : Pos} {e : Expr} {es : List Expr}
theorem qe_call (c : Ce X W k) (F : FnG X.prog X.w X.K X.mg X.base (L2.CX X.prog X.w) k' f fd ps (spG X.K X.mg ks rk D)) (hk : k' ≤ k) (hg : Gl X x) (hm : X.mg x = some (.ref f)) (hkp : PySem.W.keepIn X.K (.ref f) = true) (hb : L2.Binds X.K fd ps []) (ha : QP X κ W pu ks is (e :: es) fa) (nt : NoTwice is)
    (hdb : (x == ("__debug__" : Str)) = false := by decide) (he : starEach (e :: es) X.env = (false, eval e X.env) :: starEach es X.env := by rfl) (hpl : (backTo pos (starEach es X.env)).any (·.1) = false := by rfl) :
    QE X κ W (pu && allN is) rk (.Call (.Name x p) (e :: es) [] pos) (eCall is fa D) :=
  PE.imp (pe_callG (F.mono hk) c.gd c.rm hg hm hkp hb .nil (passAt c.tk) ha hdb he hpl) fun _ _ _ h => call_ok nt h
theorem qe_call0 (c : Ce X W k) (F : FnG X.prog X.w X.K X.mg X.base (L2.CX X.prog X.w) k' f fd ps (spG X.K X.mg [] rk D)) (hk : k' ≤ k) (hg : Gl X x) (hm : X.mg x = some (.ref f)) (hkp : PySem.W.keepIn X.K (.ref f) = true) (hb : L2.Binds X.K fd ps [])
    (hdb : (x == ("__debug__" : Str)) = false := by decide) : QE X κ W true rk (.Call (.Name x p) [] [] pos) (eCall [] aNil D) := by
  refine PE.imp (pe_callG0 (F.mono hk) c.gd c.rm hg hm hkp hb .nil (passAt c.tk) hdb) fun σ H Q h => ?_
  obtain ⟨ρ, G, fr, q⟩ := h
  exact call_step (pu := true) (is := []) (ds := []) (fun j j' i h => by simp at h) (.refl ..) (fun _ => .refl _) fr .nil q
theorem noTwice_nil : NoTwice [] := fun j j' i h => by simp at h
theorem noTwice_of {is : List (Option Nat)} (h : (is.filterMap id).Nodup) : NoTwice is := by
  induction is with
  | nil => exact noTwice_nil
  | cons q is ih =>
    cases q with
    | none =>
      have ih := ih (by simpa using h)
      intro j j' i e e'
      cases j with
      | zero => simp at e
      | succ j =>
        cases j' with
        | zero => simp at e'
        | succ j' => rw [ih j j' i (by simpa using e) (by simpa using e')]
    | some a =>
      have h : a ∉ is.filterMap id ∧ (is.filterMap id).Nodup := by simpa using h
      have ih := ih h.2
      have no : ∀ (j : Nat), is[j]? = some (some a) → False := fun j e => h.1 (by
        rw [List.mem_filterMap]
        exact ⟨some a, List.mem_of_getElem? e, rfl⟩)
      intro j j' i e e'
      cases j with
      | zero =>
        simp at e
        subst e
        cases j' with
        | zero => rfl
        | succ j' => exact (no j' (by simpa using e')).elim
      | succ j =>
        cases j' with
        | zero =>
          simp at e'
          subst e'
          exact (no j (by simpa using e)).elim
        | succ j' => rw [ih j j' i (by simpa using e) (by simpa using e')]
end
end G

/-! G13: instances. -/
namespace G
open PySem PySem.Spec PyProof.Rows
open L2 hiding St Inv Binds

section
variable {K : PySem.W.Frag} {κ : List SK} {ρ : Ev} {σ : St} {H H' : Hp} {G : Nat → List Addr}
/-- what a slot owns, written -/
theorem FR.wr (f : FR K κ ρ σ H G) {i : Nat} {c : V → Prop} {o : OP} {v : V} {d' : PyData} (hk : κ[i]? = some (.ow c o)) (hv : σ[i]? = some (some v)) (hp : o.p H' v d' (G i)) (kp : Kp H H') (ne : ∀ b u, b ∉ G i → H b = some u → H' b = some u) : FR K κ (ρ.set i d') σ H' G := by
  refine ⟨f.l1, by rw [List.length_set]; exact f.l2, fun j k e => ?_, f.dj⟩
  by_cases hj : j = i
  · subst hj
    rw [hk] at e; cases e
    obtain ⟨v0, d0, e1, e2, h0, h1⟩ := f.ok j _ hk
    rw [hv] at e1; cases e1
    exact ⟨v, d', hv, by rw [List.getElem?_set_self]; exact (List.getElem?_eq_some_iff.mp e2).1, h0, hp⟩
  · rw [List.getElem?_set_ne (Ne.symm hj)]
    have q := f.ok j k e
    cases k with
    | no => trivial
    | sh =>
      obtain ⟨v, d, e1, e2, h1⟩ := q
      exact ⟨v, d, e1, e2, Rp.kp kp _ _ h1⟩
    | ow c' o' =>
      obtain ⟨v, d, e1, e2, h0, h1⟩ := q
      refine ⟨v, d, e1, e2, h0, o'.frame h1 (fun b hb => ?_) kp⟩
      obtain ⟨u, eu, _⟩ := o'.live h1 b hb
      rw [eu]
      exact ne b u (fun z => hj (f.dj j i _ _ _ _ e hk b hb z)) eu
theorem Rel.wr {i : Nat} {c : V → Prop} {o : OP} (hk : κ[i]? = some (.ow c o)) (ne : ∀ b u, b ∉ G i → H b = some u → H' b = some u) (nn : ∀ b, H' b = none → H b = none) : Rel H (Own κ G) H' (Own κ G) :=
  ⟨fun b u hb n => ne b u (fun z => n ⟨i, c, o, hk, z⟩) hb, fun b z => .inl z, nn⟩
theorem upd_other {a b : Addr} {u w : HO} {F : List Addr} (ha : a ∈ F) (hb : b ∉ F) (e : H b = some u) : (upd H a w) b = some u := by
  rw [upd_ne]
  · exact e
  · intro z; exact hb (z ▸ ha)
end

/-! ### an instance, its fields in the class's order -/
def oIns (K : PySem.W.Frag) (C : Addr) (ns : List Str) : OP where
  p := fun H v d F => ∃ a dx fs ds, v = .ref a ∧ F = [a] ∧ d = .tuple ds ∧ H a = some (.ins C dx fs) ∧ fs.map (·.1) = ns ∧ RpAll K H (fs.map (·.2)) ds
  frame := by
    rintro H H' v d F ⟨a, dx, fs, ds, rfl, rfl, rfl, h1, h2, h3⟩ hF k
    exact ⟨a, dx, fs, ds, rfl, rfl, rfl, (hF a (by simp)).trans h1, h2, RpAll.kp k _ _ h3⟩
  live := by
    rintro H v d F ⟨a, dx, fs, ds, rfl, rfl, rfl, h1, h2, h3⟩ b hb
    rw [List.mem_singleton] at hb
    exact ⟨_, by rw [hb]; exact h1, rfl⟩
/-- an instance in the making, its fields by names -/
def oInD (K : PySem.W.Frag) (C : Addr) : OP where
  p := fun H v d F => ∃ a dx fs ds, v = .ref a ∧ F = [a] ∧ d = .dict ds ∧ H a = some (.ins C dx fs) ∧ RpKv K H (fs.map fun q => (Sum.inr q.1, q.2)) ds
  frame := by
    rintro H H' v d F ⟨a, dx, fs, ds, rfl, rfl, rfl, h1, h2⟩ hF k
    exact ⟨a, dx, fs, ds, rfl, rfl, rfl, (hF a (by simp)).trans h1, RpKv.kp k _ _ h2⟩
  live := by
    rintro H v d F ⟨a, dx, fs, ds, rfl, rfl, rfl, h1, h2⟩ b hb
    rw [List.mem_singleton] at hb
    exact ⟨_, by rw [hb]; exact h1, rfl⟩
theorem lookup_at {α : Type} : ∀ {fs : List (Str × α)} {j : Nat} {f : Str} {v : α}, (fs.map (·.1)).Nodup → (fs.map (·.1))[j]? = some f → (fs.map (·.2))[j]? = some v → fs.lookup f = some v
  | [], _, _, _, _, e, _ => by simp at e
  | (g, x) :: fs, 0, f, v, n, e, e2 => by
    simp at e e2
    subst e e2
    simp
  | (g, x) :: fs, j + 1, f, v, n, e, e2 => by
    have n' : g ∉ fs.map (·.1) ∧ (fs.map (·.1)).Nodup := by
      rw [List.map_cons, List.nodup_cons] at n
      exact n
    have e' : (fs.map (·.1))[j]? = some f := by simpa using e
    have e2' : (fs.map (·.2))[j]? = some v := by simpa using e2
    rw [List.lookup_cons]
    have : (f == g) = false := by
      rw [beq_eq_false_iff_ne]
      intro z
      exact n'.1 (z ▸ List.mem_of_getElem? e')
    rw [this]
    exact lookup_at n'.2 e' e2'
theorem putF_at {f : Str} {y : V} : ∀ {fs : List (Str × V)} {j : Nat}, (fs.map (·.1)).Nodup → (fs.map (·.1))[j]? = some f → (putF f y fs).map (·.1) = fs.map (·.1) ∧ (putF f y fs).map (·.2) = (fs.map (·.2)).set j y
  | [], _, _, e => by simp at e
  | (g, x) :: fs, 0, n, e => by
    simp at e
    subst e
    rw [putF, if_pos rfl]
    exact ⟨rfl, rfl⟩
  | (g, x) :: fs, j + 1, n, e => by
    have n' : g ∉ fs.map (·.1) ∧ (fs.map (·.1)).Nodup := by
      rw [List.map_cons, List.nodup_cons] at n
      exact n
    have e' : (fs.map (·.1))[j]? = some f := by simpa using e
    have hg : g ≠ f := fun z => n'.1 (z ▸ List.mem_of_getElem? e')
    rw [putF, if_neg hg]
    obtain ⟨h1, h2⟩ := putF_at (y := y) n'.2 e'
    exact ⟨by rw [List.map_cons, List.map_cons, h1], by rw [List.map_cons, List.map_cons, h2]; rfl⟩
/-- i's field j -/
def eFld (i j : Nat) : M PyData := fun ρ => match ρ[i]? with
  | some (.tuple ds) => (match ds[j]? with
    | some d => .ok d ρ
    | none => .bad)
  | _ => .bad
/-- i's field j written -/
def putFld (i j : Nat) (d : PyData) (ρ : Ev) : Option Ev := match ρ[i]? with
  | some (.tuple ds) => if j < ds.length then some (ρ.set i (.tuple (ds.set j d))) else none
  | _ => none
section
variable {X : Cx} {κ : List SK} {W : WX} {i j : Nat} {x f : Str} {c : V → Prop} {C : Addr} {ns : List Str} {p pos : Pos}
theorem qe_fld (i j : Nat) (hk : κ[i]? = some (.ow c (oIns X.K C ns))) (hj : ns[j]? = some f) (nd : ns.Nodup) (cl : Cls X.K C) (na : NoAttr X.K C f) (hp : PE X (.Name x p) (tVar i)) (hb : attributeBase (.Name x p) f X.env (eval (.Name x p) X.env) = eval (.Name x p) X.env := by rfl) :
    QE X κ W true .sh (.Attribute (.Name x p) f pos) (eFld i j) := by
  refine PE.imp (pe_fld hp hb) fun σ H Q ⟨ρ, G, fr, q⟩ => ?_
  obtain ⟨v, d, e1, e2, _, a, dx, fs, ds, rfl, _, rfl, h1, h2, h3⟩ := fr.ok i _ hk
  have ej : (fs.map (·.1))[j]? = some f := by rw [h2]; exact hj
  unfold eFld at q
  rw [e2] at q
  dsimp only at q
  cases e3 : ds[j]? with
  | none => rw [e3] at q; exact q.elim
  | some d =>
    rw [e3] at q
    obtain ⟨v, g1, g2⟩ := h3.getD e3
    have el : fs.lookup f = some v := lookup_at (by rw [h2]; exact nd) ej g1
    exact ⟨_, e1, a, C, dx, fs, v, rfl, h1, cl, na, el, val_sh fr q g2⟩
/-- the frame behind a field's store -/
theorem fld_put {K : PySem.W.Frag} {ρ : Ev} {σ : St} {H : Hp} {G : Nat → List Addr} {y : V} {d : PyData} {ρ2 : Ev} (fr : FR K κ ρ σ H G) (hk : κ[i]? = some (.ow c (oIns K C ns))) (hj : ns[j]? = some f) (nd : ns.Nodup) (hl : ns.length < 1000) (r : Rp K H y d) (e : putFld i j d ρ = some ρ2) :
    ∃ a dx fs, σ[i]? = some (some (.ref a)) ∧ H a = some (.ins C dx fs) ∧ fs.length < 1000 ∧ FR K κ ρ2 σ (upd H a (.ins C dx (putF f y fs))) G ∧ Rel H (Own κ G) (upd H a (.ins C dx (putF f y fs))) (Own κ G) := by
  obtain ⟨v, d0, e1, e2, _, a, dx, fs, ds, rfl, eG, rfl, h1, h2, h3⟩ := fr.ok i _ hk
  have ej : (fs.map (·.1))[j]? = some f := by rw [h2]; exact hj
  unfold putFld at e
  rw [e2] at e
  dsimp only at e
  split at e
  · cases e
    have k : Kp H (upd H a (.ins C dx (putF f y fs))) := kp_upd h1 rfl
    obtain ⟨g1, g2⟩ := putF_at (y := y) (fs := fs) (by rw [h2]; exact nd) ej
    have hm : a ∈ G i := by rw [eG]; simp
    have ne : ∀ b u, b ∉ G i → H b = some u → (upd H a (.ins C dx (putF f y fs))) b = some u := fun b u hb e => upd_other hm hb e
    refine ⟨a, dx, fs, e1, h1, ?_, fr.wr hk e1 ⟨a, dx, _, _, rfl, eG, rfl, upd_same, by rw [g1]; exact h2, ?_⟩ k ne, Rel.wr hk ne fun b z => upd_none z⟩
    · rw [← h2, List.length_map] at hl; exact hl
    · rw [g2]
      exact (RpAll.kp k _ _ h3).set j (Rp.kp k _ _ r)
  · cases e
variable {J : Jx} {pu : Bool} {e : Expr} {fe : M PyData} {pos' : Pos}
def sFldSet (i j : Nat) (fe : M PyData) : MS := fun ρ => match fe ρ with
  | .ok d ρ' => (match putFld i j d ρ' with
    | some ρ2 => .nx ρ2
    | none => .bad)
  | .ex c p ρ' => .ex c p ρ'
  | .bad => .bad
theorem qs_fld (i j : Nat) (hk : κ[i]? = some (.ow c (oIns X.K C ns))) (hj : ns[j]? = some f) (nd : ns.Nodup) (hl : ns.length < 1000) (cl : Cls X.K C) (na : NoAttr X.K C f) (hp : PE X (.Name x p) (tVar i)) (he : QE X κ J.W pu .sh e fe) (wx : Wk κ J.κx)
    (hs : swapsWith e (some (.Attribute (.Name x p) f pos')) pos.line X.env = pure false := by rfl) : QS X J κ κ (.Assign [.Attribute (.Name x p) f pos'] e pos) (sFldSet i j fe) := by
  refine PS.imp (ps_fld hp he hs) fun D σ H ⟨ρ, G, fr, h⟩ => ⟨ρ, G, fr, ?_⟩
  unfold sFldSet at h
  cases e1 : fe ρ with
  | bad => rw [e1] at h; exact h
  | ex c p ρ' => rw [e1] at h; exact fun cls dd H' G' x f' r' => h cls dd σ H' G' x (f'.weak wx) (r'.sub fun b z => z.weak wx)
  | ok d ρ' =>
    rw [e1] at h
    intro y H' G' F f' r' s' ok n'
    dsimp only at h
    cases e2 : putFld i j d ρ' with
    | none => rw [e2] at h; exact h.elim
    | some ρ2 =>
      rw [e2] at h
      obtain ⟨a, dx, fs, q1, q2, q3, q4, q5⟩ := fld_put f' hk hj nd hl ok.1 e2
      exact ⟨_, q1, a, C, dx, fs, rfl, q2, cl, na, q3, h σ _ G' q4 (r'.trans q5)⟩
end
/-! ### an instance's field in the making -/
def putKv (f : Str) (d : PyData) : List (PyData × PyData) → List (PyData × PyData)
  | [] => [(.str f, d)]
  | (.str g, x) :: r => if g = f then (.str g, d) :: r else (.str g, x) :: putKv f d r
  | q :: r => q :: putKv f d r
theorem putF_kv {K : PySem.W.Frag} {H : Hp} {f : Str} {y : V} {d : PyData} (r : Rp K H y d) : ∀ {fs : List (Str × V)} {ds : List (PyData × PyData)}, RpKv K H (fs.map fun q => (Sum.inr q.1, q.2)) ds → RpKv K H ((putF f y fs).map fun q => (Sum.inr q.1, q.2)) (putKv f d ds)
  | [], ds, h => by
    cases h
    exact .cons (k := Sum.inr f) r .nil
  | (g, x) :: fs, ds, h => by
    cases h with
    | cons h1 h2 =>
      show RpKv K H _ (putKv f d ((.str g, _) :: _))
      rw [putF, putKv]
      by_cases e : g = f
      · rw [if_pos e, if_pos e]
        exact .cons (k := Sum.inr g) r h2
      · rw [if_neg e, if_neg e]
        exact .cons (k := Sum.inr g) h1 (putF_kv r h2)
def sFldNew (i : Nat) (f : Str) (fe : M PyData) : MS := fun ρ => match fe ρ with
  | .ok d ρ' => (match ρ'[i]? with
    | some (.dict kvs) => if kvs.length < 999 then .nx (ρ'.set i (.dict (putKv f d kvs))) else .bad
    | _ => .bad)
  | .ex c p ρ' => .ex c p ρ'
  | .bad => .bad
theorem RpKv.len {K : PySem.W.Frag} {H : Hp} : ∀ {vs : List (Key × V)} {ds : List (PyData × PyData)}, RpKv K H vs ds → vs.length = ds.length
  | _, _, .nil => rfl
  | _, _, .cons _ t => by rw [List.length_cons, List.length_cons, RpKv.len t]
theorem qs_fldN {X : Cx} {J : Jx} {κ : List SK} {x f : Str} {c : V → Prop} {C : Addr} {p pos pos' : Pos} {pu : Bool} {e : Expr} {fe : M PyData} (i : Nat) (hk : κ[i]? = some (.ow c (oInD X.K C))) (cl : Cls X.K C) (na : NoAttr X.K C f) (hp : PE X (.Name x p) (tVar i)) (he : QE X κ J.W pu .sh e fe) (wx : Wk κ J.κx)
    (hs : swapsWith e (some (.Attribute (.Name x p) f pos')) pos.line X.env = pure false := by rfl) : QS X J κ κ (.Assign [.Attribute (.Name x p) f pos'] e pos) (sFldNew i f fe) := by
  refine PS.imp (ps_fld hp he hs) fun D σ H ⟨ρ, G, fr, h⟩ => ⟨ρ, G, fr, ?_⟩
  unfold sFldNew at h
  cases e1 : fe ρ with
  | bad => rw [e1] at h; exact h
  | ex c p ρ' => rw [e1] at h; exact fun cls dd H' G' x f' r' => h cls dd σ H' G' x (f'.weak wx) (r'.sub fun b z => z.weak wx)
  | ok d ρ' =>
    rw [e1] at h
    intro y H' G' F f' r' s' ok n'
    obtain ⟨v, d0, g1, g2, _, a, dx, fs, ds, rfl, eG, rfl, h1, h2⟩ := f'.ok i _ hk
    dsimp only at h
    rw [g2] at h
    dsimp only at h
    split at h
    · rename_i hlen
      have k : Kp H' (upd H' a (.ins C dx (putF f y fs))) := kp_upd h1 rfl
      have hm : a ∈ G' i := by rw [eG]; simp
      have ne : ∀ b u, b ∉ G' i → H' b = some u → (upd H' a (.ins C dx (putF f y fs))) b = some u := fun b u hb e => upd_other hm hb e
      refine ⟨_, g1, a, C, dx, fs, rfl, h1, cl, na, ?_, h σ _ G' (f'.wr hk g1 ⟨a, dx, _, _, rfl, eG, rfl, upd_same, RpKv.kp k _ _ (putF_kv ok.1 h2)⟩ k ne) (r'.trans (Rel.wr hk ne fun b z => upd_none z))⟩
      have := h2.len
      rw [List.length_map] at this
      omega
    · exact h.elim
/-! ### a target o.f -/
theorem pg_fld {X : Cx} {o : Expr} {f : Str} {pos : Pos} {ta : TE} (ha : PE X o ta) : PG X (.Attribute o f pos) (fun y σ H Q => ta σ H fun x H2 => ∃ a C dx fs, x = .ref a ∧ H2 a = some (.ins C dx fs) ∧ Cls X.K C ∧ NoAttr X.K C f ∧ fs.length < 1000 ∧ Q σ (upd H2 a (.ins C dx (putF f y fs)))) := by
  refine ⟨fun pins s σ H v u Q I r h => ?_⟩
  rw [assign_Attribute]
  refine wpAny_bind (wpAny_holding (thn (ha.run pins s σ H _ I h) fun ov s2 ⟨x, H2, I2, rx, a, C, dx, fs, ex, ea, c, n, l, q2⟩ => ?_))
  subst ex
  obtain rfl : ov = Value.ref a := rx
  refine wpAny_bind (wpAny_standAt (wpAny_bind (wpAny_holding (setattr_ok I2 ea c n l r fun s3 I3 => ?_))))
  exact wpAny_release ⟨σ, _, I3, q2⟩

/-! ### targets that write -/
section
variable (K : PySem.W.Frag)
def AftGw (κ κ' : List SK) (σ : St) (H : Hp) (G : Nat → List Addr) (Q : St → Hp → Prop) : Option Ev → Prop
  | some ρ' => ∀ σ' H' G', FR K κ' ρ' σ' H' G' → Rel H (Own κ G) H' (Own κ' G') → Q σ' H'
  | none => False
def tGw (κ κ' : List SK) (g : TD) : TG := fun v σ H Q => ∃ ρ G d, FR K κ ρ σ H G ∧ Rp K H v d ∧ AftGw K κ κ' σ H G Q (g d ρ)
def tGws (κ κ' : List SK) (g : TDs) : TGs := fun vs σ H Q => ∃ ρ G ds, FR K κ ρ σ H G ∧ RpAll K H vs ds ∧ AftGw K κ κ' σ H G Q (g ds ρ)
end
abbrev QGw (X : Cx) (κ κ' : List SK) (tg : Expr) (g : TD) : Prop := PG X tg (tGw X.K κ κ' g)
abbrev QGws (X : Cx) (κ κ' : List SK) (tgs : List Expr) (g : TDs) : Prop := PGs X tgs (tGws X.K κ κ' g)
section
variable {X : Cx} {κ κ1 κ2 : List SK} {pos : Pos}
theorem qgw_of {is : List Nat} {tg : Expr} {g : TD} (h : QG X is κ κ1 tg g) : QGw X κ κ1 tg g := by
  refine PG.imp h fun v σ H Q ⟨ρ, G, d, f, r, q⟩ => ⟨ρ, G, d, f, r, ?_⟩
  cases e : g d ρ with
  | none => rw [e] at q; exact q
  | some ρ' => rw [e] at q; exact fun σ' G' f' o' _ => q σ' H G' f' ((Rel.refl ..).sub o')
theorem qgw_fld (i j : Nat) {x f : Str} {c : V → Prop} {C : Addr} {ns : List Str} {p : Pos} (hk : κ[i]? = some (.ow c (oIns X.K C ns))) (hj : ns[j]? = some f) (nd : ns.Nodup) (hl : ns.length < 1000) (cl : Cls X.K C) (na : NoAttr X.K C f) (hp : PE X (.Name x p) (tVar i)) :
    QGw X κ κ (.Attribute (.Name x p) f pos) (putFld i j) := by
  refine PG.imp (pg_fld hp) fun v σ H Q ⟨ρ, G, d, fr, r, q⟩ => ?_
  cases e : putFld i j d ρ with
  | none => rw [e] at q; exact q.elim
  | some ρ2 =>
    rw [e] at q
    obtain ⟨a, dx, fs, q1, q2, q3, q4, q5⟩ := fld_put fr hk hj nd hl r e
    exact ⟨_, q1, a, C, dx, fs, rfl, q2, cl, na, q3, q σ _ G q4 q5⟩
theorem qgws_nil : QGws X κ κ [] gNi := by
  refine PGs.imp pgs_nil fun vs σ H Q ⟨ρ, G, ds, f, r, h⟩ => ?_
  cases r with
  | nil => exact ⟨rfl, h σ H G f (.refl ..)⟩
  | cons _ _ => exact h.elim
theorem qgws_cons {e : Expr} {es : List Expr} {g : TD} {gs : TDs} (h1 : QGw X κ κ1 e g) (h2 : QGws X κ1 κ2 es gs)
    (hs : (assignEach (e :: es) X.env).map (·.2) = assign e X.env :: (assignEach es X.env).map (·.2) := by rfl) : QGws X κ κ2 (e :: es) (gC g gs) := by
  refine PGs.imp (pgs_cons h1 h2 hs) fun vs σ H Q ⟨ρ, G, ds, f, r, h⟩ => ?_
  cases r with
  | nil => exact h.elim
  | @cons v vs d ds r rr =>
    refine ⟨v, vs, rfl, ρ, G, d, f, r, ?_⟩
    unfold gC at h
    dsimp only at h
    cases e : g d ρ with
    | none => rw [e] at h; exact h.elim
    | some ρ' =>
      rw [e] at h
      intro σ' H' G' f' r'
      refine ⟨ρ', G', ds, f', RpAll.kp (f.kp r') _ _ rr, ?_⟩
      dsimp only at h
      cases e2 : gs ds ρ' with
      | none => rw [e2] at h; exact h.elim
      | some ρ2 =>
        rw [e2] at h
        exact fun σ2 H2 G2 f2 r2 => h σ2 H2 G2 f2 (r'.trans r2)
theorem qgw_tup {es : List Expr} {k : Nat} {gs : TDs} {n : Nat} (hc : X.calm = true) (h : QGws X κ κ1 es gs) (hn : (assignEach es X.env).length = n := by rfl) (hst : (assignEach es X.env).findIdx? (·.1) = none := by rfl) :
    QGw X κ κ1 (.Tuple es k pos) (gT n gs) := by
  refine PG.imp (pg_tup hc h hn hst) fun v σ H Q ⟨ρ, G, d, f, r, h⟩ => ?_
  cases d with
  | tuple ds =>
    cases r with
    | @tup a xs _ q rr =>
      unfold gT at h
      dsimp only at h
      by_cases hl : ds.length = n
      · rw [if_pos hl] at h
        exact ⟨a, xs, rfl, q, rr.len.trans hl, ρ, G, ds, f, rr, h⟩
      · rw [if_neg hl] at h
        exact h.elim
  | _ => exact h.elim
variable {J : Jx} {pu : Bool} {fe : M PyData} {e tg : Expr} {g : TD}
theorem qs_asgW (he : QE X κ J.W pu .sh e fe) (hg : QGw X κ κ1 tg g) (wx : Wk κ J.κx) (hs : swapsWithSole [tg] e pos.line X.env = pure false := by rfl) (hw : swappedStores [tg] e X.env = pure none := by rfl)
    (h1 : (assignEach [tg] X.env).map (·.2) = [assign tg X.env] := by rfl) : QS X J κ κ1 (.Assign [tg] e pos) (sAsg fe g) := by
  refine PS.imp (ps_asg he hg hs hw h1) fun D σ H ⟨ρ, G, fr, h⟩ => ⟨ρ, G, fr, ?_⟩
  unfold sAsg at h
  cases e1 : fe ρ with
  | ok d ρ' =>
    rw [e1] at h
    intro v H' G' F f' r' s' ok n'
    dsimp only at h
    refine ⟨ρ', G', d, f', ok.1, ?_⟩
    cases e2 : g d ρ' with
    | none => rw [e2] at h; exact h.elim
    | some ρ2 =>
      rw [e2] at h
      exact fun σ2 H2 G2 f2 r2 => h σ2 H2 G2 f2 (r'.trans r2)
  | ex c p ρ' => rw [e1] at h; exact fun cls dd H' G' x f' r' => h cls dd σ H' G' x (f'.weak wx) (r'.sub fun b z => z.weak wx)
  | bad => rw [e1] at h; exact h
end

/-! ### calls of methods -/
section
variable {X : Cx} {κ : List SK} {W : WX} {pu : Bool} {k k' i : Nat} {f C : Addr} {fd : FuncData} {ps : List Str} {ks : List (Option OP)} {is : List (Option Nat)} {rk : RK} {D : M PyData} {fa : M (List PyData)} {x m : Str} {p apos pos : Pos} {e : Expr} {es : List Expr} {c : V → Prop} {ns : List Str}
theorem meth_ok {K : PySem.W.Frag} {mg : Str → Option Value} (nt : NoTwice (some i :: is)) (hk : κ[i]? = some (.ow c (oIns K C ns))) (nm : m ∉ ns) {σ : St} {H : Hp} {Q : VK} (h : tE K mg κ W (pu && false) rk (eCall (some i :: is) (aIo fa) D) σ H Q) :
    tMethG C m (spG K mg (some (oIns K C ns) :: ks) rk D) [] (WE W) (tVar i) (tP K mg κ W pu ks is fa) σ H Q := by
  obtain ⟨ρ, G, fr, q⟩ := h
  obtain ⟨v, d, e1, e2, _, a, dx, fs, ds, rfl, eG, rfl, h1, h2, h3⟩ := fr.ok i _ hk
  have el : fs.lookup m = none := by
    cases e : fs.lookup m with
    | none => rfl
    | some v =>
      have := PySem.mem_of_lookup e
      exact absurd (h2 ▸ List.mem_map.mpr ⟨_, this, rfl⟩) nm
  refine ⟨_, e1, a, dx, fs, rfl, h1, el, ρ, G, fr, ?_⟩
  unfold eCall aIo at q
  cases e : fa ρ with
  | bad => rw [e] at q; exact q
  | ex c p ρ' => rw [e] at q; exact q
  | ok ds ρ1 =>
    rw [e] at q
    intro vs H1 G1 f1 r1 s1 ar
    rw [List.append_nil]
    exact call_step (pu := pu) nt r1 s1 f1 (.io (d := .none) hk e1 ar) (by
      have ea : allN (some i :: is) = false := rfl
      rw [ea]
      exact q)
theorem qe_meth {pl : Sem Bool} (i : Nat) (cx : Ce X W k) (hk : κ[i]? = some (.ow c (oIns X.K C ns))) (hp : PE X (.Name x p) (tVar i)) (cl : Cls X.K C) (hm : Meth X.K C m f) (nm : m ∉ ns) (F : FnG X.prog X.w X.K X.mg X.base (L2.CX X.prog X.w) k' f fd ps (spG X.K X.mg (some (oIns X.K C ns) :: ks) rk D)) (hkk : k' ≤ k)
    (hb : L2.Binds X.K fd ps []) (ha : QP X κ W pu ks is (e :: es) fa) (nt : NoTwice (some i :: is)) (hst : starEach (e :: es) X.env = (false, eval e X.env) :: starEach es X.env := by rfl) (hpl : (backTo pos (starEach es X.env)).any (·.1) = false := by rfl)
    (ht : eval (.Call (.Attribute (.Name x p) m apos) (e :: es) [] pos) X.env = (do
      let ov ← eval (.Name x p) X.env
      standAt apos.atName
      let (f, first) ← holding [ov] (getMethod ov m pl)
      callWith pos f first (backTo pos (starEach (e :: es) X.env)) (backToKw pos (keywordEach [] X.env))) := by rfl) :
    QE X κ W (pu && false) rk (.Call (.Attribute (.Name x p) m apos) (e :: es) [] pos) (eCall (some i :: is) (aIo fa) D) :=
  PE.imp (pe_methG hp cl hm (F.mono hkk) cx.gd cx.rm hb .nil (passAt cx.tk) ha hst hpl ht) fun _ _ _ h => meth_ok nt hk nm h
theorem qe_meth0 {pl : Sem Bool} (i : Nat) (cx : Ce X W k) (hk : κ[i]? = some (.ow c (oIns X.K C ns))) (hp : PE X (.Name x p) (tVar i)) (cl : Cls X.K C) (hm : Meth X.K C m f) (nm : m ∉ ns) (F : FnG X.prog X.w X.K X.mg X.base (L2.CX X.prog X.w) k' f fd ps (spG X.K X.mg [some (oIns X.K C ns)] rk D)) (hkk : k' ≤ k)
    (hb : L2.Binds X.K fd ps [])
    (ht : eval (.Call (.Attribute (.Name x p) m apos) [] [] pos) X.env = (do
      let ov ← eval (.Name x p) X.env
      standAt apos.atName
      let (f, first) ← holding [ov] (getMethod ov m pl)
      callWith pos f first (backTo pos (starEach [] X.env)) (backToKw pos (keywordEach [] X.env))) := by rfl) :
    QE X κ W false rk (.Call (.Attribute (.Name x p) m apos) [] [] pos) (eCall [some i] (aIo aNil) D) := by
  refine PE.imp (pe_methG0 hp cl hm (F.mono hkk) cx.gd cx.rm hb .nil (passAt cx.tk) ht) fun σ H Q h => ?_
  obtain ⟨v, e1, a, dx, fs, ev, h1, el, z⟩ := meth_ok (pu := false) (ks := []) (is := []) (m := m) (fun j j' i h h' => by
    cases j <;> cases j' <;> simp at h h' <;> rfl) hk nm h
  obtain ⟨ρ, G, fr, q⟩ := z
  exact ⟨v, e1, a, dx, fs, ev, h1, el, q [] H G fr (.refl ..) (fun z => nomatch z) .nil⟩
end

/-! ### C(..) -/
section
variable {K : PySem.W.Frag} {κ : List SK} {ρ : Ev} {σ : St} {H H' : Hp} {G : Nat → List Addr}
theorem FR.snoc (f : FR K κ ρ σ H G) {c : V → Prop} {o : OP} {x : V} {d : PyData} {F : List Addr} (hc : c x) (hp : o.p H x d F) (hd : ∀ b ∈ F, ¬ Own κ G b) : FR K (κ ++ [.ow c o]) (ρ ++ [d]) (σ ++ [some x]) H (fun j => if j = κ.length then F else G j) := by
  have l1 := f.l1
  have l2 := f.l2
  have at_ : ∀ {i : Nat} {k : SK}, (κ ++ [.ow c o])[i]? = some k → (i = κ.length ∧ k = .ow c o) ∨ (i < κ.length ∧ κ[i]? = some k) := fun {i k} e => by
    by_cases hi : i < κ.length
    · rw [List.getElem?_append_left hi] at e
      exact .inr ⟨hi, e⟩
    · rw [List.getElem?_append_right (Nat.le_of_not_lt hi)] at e
      have : i - κ.length = 0 := by
        have := (List.getElem?_eq_some_iff.mp e).1
        simp at this
        omega
      rw [this] at e
      cases e
      exact .inl ⟨by omega, rfl⟩
  refine ⟨by simp [l1], by simp [l2], fun i k e => ?_, fun i j c' o' c'' o'' e e' b hb hb' => ?_⟩
  · rcases at_ e with ⟨rfl, rfl⟩ | ⟨hi, e⟩
    · refine ⟨x, d, by rw [l1, List.getElem?_append_right (Nat.le_refl _), Nat.sub_self]; rfl, by rw [l1, ← l2, List.getElem?_append_right (Nat.le_refl _), Nat.sub_self]; rfl, hc, ?_⟩
      rw [if_pos rfl]; exact hp
    · rw [List.getElem?_append_left (by omega), List.getElem?_append_left (by omega), if_neg (Nat.ne_of_lt hi)]
      exact f.ok i k e
  · rcases at_ e with ⟨rfl, z⟩ | ⟨hi, e⟩
    · rcases at_ e' with ⟨rfl, z'⟩ | ⟨hj, e'⟩
      · rfl
      · rw [if_pos rfl] at hb
        rw [if_neg (Nat.ne_of_lt hj)] at hb'
        exact absurd ⟨j, _, _, e', hb'⟩ (hd b hb)
    · rw [if_neg (Nat.ne_of_lt hi)] at hb
      rcases at_ e' with ⟨rfl, z'⟩ | ⟨hj, e'⟩
      · rw [if_pos rfl] at hb'
        exact absurd ⟨i, _, _, e, hb⟩ (hd b hb')
      · rw [if_neg (Nat.ne_of_lt hj)] at hb'
        exact f.dj i j _ _ _ _ e e' b hb hb'
theorem FR.unsnoc {k : SK} {d : PyData} {y : Option V} (f : FR K (κ ++ [k]) (ρ ++ [d]) (σ ++ [y]) H G) : FR K κ ρ σ H G := by
  have l1 := f.l1
  have l2 := f.l2
  have lt : ∀ {i : Nat} {s : SK}, κ[i]? = some s → i < κ.length ∧ (κ ++ [k])[i]? = some s := fun {i s} e => by
    have h := (List.getElem?_eq_some_iff.mp e).1
    exact ⟨h, by rw [List.getElem?_append_left h]; exact e⟩
  simp at l1 l2
  refine ⟨l1, l2, fun i s e => ?_, fun i j c o c' o' e e' => f.dj i j c o c' o' (lt e).2 (lt e').2⟩
  have q := f.ok i s (lt e).2
  have h := (lt e).1
  rw [List.getElem?_append_left (by omega), List.getElem?_append_left (by omega)] at q
  exact q
theorem Arg.snoc {ks : List (Option OP)} {is : List (Option Nat)} {vs : List V} {ds : List PyData} {k : SK} {y : Option V} (a : Arg K κ σ H ks is vs ds) : Arg K (κ ++ [k]) (σ ++ [y]) H ks is vs ds := by
  induction a with
  | nil => exact .nil
  | sh r t ih => exact .sh r ih
  | io h1 h2 t ih => exact .io (by rw [List.getElem?_append_left (List.getElem?_eq_some_iff.mp h1).1]; exact h1) (by rw [List.getElem?_append_left (List.getElem?_eq_some_iff.mp h2).1]; exact h2) ih
theorem Arg.lt {ks : List (Option OP)} {is : List (Option Nat)} {vs : List V} {ds : List PyData} (a : Arg K κ σ H ks is vs ds) : ∀ i, some i ∈ is → i < κ.length := by
  induction a with
  | nil => intro i h; cases h
  | sh r t ih => intro i h; exact ih i (by simpa using h)
  | io h1 h2 t ih =>
    intro i h
    rcases List.mem_cons.mp h with z | z
    · cases z; exact (List.getElem?_eq_some_iff.mp h1).1
    · exact ih i z
theorem insIo_snoc : ∀ {is : List (Option Nat)} {ds : List PyData} {ρ : Ev} {d : PyData}, (∀ i, some i ∈ is → i < ρ.length) → insIo is ds (ρ ++ [d]) = insIo is ds ρ
  | [], ds, ρ, d, _ => by cases ds <;> simp [insIo]
  | none :: is, [], ρ, d, _ => by simp [insIo]
  | some i :: is, [], ρ, d, _ => by simp [insIo]
  | none :: is, e :: ds, ρ, d, h => by rw [insIo, insIo, insIo_snoc fun i hi => h i (List.mem_cons_of_mem _ hi)]
  | some i :: is, e :: ds, ρ, d, h => by
    rw [insIo, insIo, insIo_snoc fun i hi => h i (List.mem_cons_of_mem _ hi), List.getD_eq_getElem?_getD, List.getD_eq_getElem?_getD, List.getElem?_append_left (h i List.mem_cons_self)]
theorem putIo_snoc : ∀ {is : List (Option Nat)} {es ρ : Ev} {d : PyData}, (∀ i, some i ∈ is → i < ρ.length) → putIo is es (ρ ++ [d]) = putIo is es ρ ++ [d]
  | [], es, ρ, d, _ => by simp [putIo]
  | none :: is, [], ρ, d, _ => by simp [putIo]
  | some i :: is, [], ρ, d, _ => by simp [putIo]
  | none :: is, e :: es, ρ, d, h => by rw [putIo, putIo, putIo_snoc fun i hi => h i (List.mem_cons_of_mem _ hi)]
  | some i :: is, e :: es, ρ, d, h => by
    rw [putIo, putIo, List.set_append_left _ _ (h i List.mem_cons_self), putIo_snoc fun j hj => by rw [List.length_set]; exact h j (List.mem_cons_of_mem _ hj)]
end
def keysOk : List (PyData × PyData) → List Str → Bool
  | [], [] => true
  | (.str x, _) :: r, f :: fs => decide (x = f) && keysOk r fs
  | _, _ => false
def eMake (is : List (Option Nat)) (ns : List Str) (fa : M (List PyData)) (D : M PyData) : M PyData := fun ρ => match fa ρ with
  | .ok ds ρ1 => (match D (.dict [] :: insIo is ds ρ1) with
    | .ok r es => (match r with
      | .none => (match es with
        | .dict kvs :: es => if keysOk kvs ns = true then .ok (.tuple (kvs.map (·.2))) (putIo is es ρ1) else .bad
        | _ => .bad)
      | _ => .bad)
    | .ex c p (_ :: es) => .ex c p (putIo is es ρ1)
    | _ => .bad)
  | .ex c p ρ' => .ex c p ρ'
  | .bad => .bad
theorem keysOk_ok {K : PySem.W.Frag} {H : Hp} : ∀ {fs : List (Str × V)} {kvs : List (PyData × PyData)} {ns : List Str}, RpKv K H (fs.map fun q => (Sum.inr q.1, q.2)) kvs → keysOk kvs ns = true → fs.map (·.1) = ns ∧ RpAll K H (fs.map (·.2)) (kvs.map (·.2))
  | [], kvs, ns, r, h => by
    cases r
    cases ns with
    | nil => exact ⟨rfl, .nil⟩
    | cons _ _ => cases h
  | (g, x) :: fs, kvs, ns, r, h => by
    cases r with
    | cons r1 r2 =>
      cases ns with
      | nil => cases h
      | cons f ns =>
        have h : (decide (g = f) && keysOk _ ns) = true := h
        rw [Bool.and_eq_true, decide_eq_true_iff] at h
        obtain ⟨h1, h2⟩ := keysOk_ok r2 h.2
        exact ⟨by rw [List.map_cons, h1, h.1], .cons r1 h2⟩
theorem make_ok {K : PySem.W.Frag} {mg : Str → Option Value} {κ : List SK} {W : WX} {pu : Bool} {ks : List (Option OP)} {is : List (Option Nat)} {D : M PyData} {fa : M (List PyData)} {C : Addr} {ns : List Str} (nt : NoTwice is) {σ : St} {H : Hp} {Q : VK} (h : tE K mg κ W false (.ow (oIns K C ns)) (eMake is ns fa D) σ H Q) :
    tMakeG C (spG K mg (some (oInD K C) :: ks) .sh D) [] (WE W) (tP K mg κ W pu ks is fa) σ H Q := by
  obtain ⟨ρ0, G0, fr0, q⟩ := h
  refine ⟨ρ0, G0, fr0, ?_⟩
  unfold eMake at q
  cases e : fa ρ0 with
  | bad => rw [e] at q; exact q
  | ex c p ρ' => rw [e] at q; exact q
  | ok ds ρ1 =>
    rw [e] at q
    dsimp only at q
    intro vs H1 G1 f1 r1 s1 ar x dx hx hdx hne
    rw [List.append_nil]
    have sm1 : Same H1 (upd H1 dx (.own x)) := same_upd0 hdx
    have hx2 : (upd H1 dx (.own x)) x = none := by rw [upd_ne (Ne.symm hne)]; exact hx
    have sm : Same H1 (upd (upd H1 dx (.own x)) x (.ins C dx [])) := sm1.trans (same_upd0 hx2)
    generalize hH2 : upd (upd H1 dx (.own x)) x (.ins C dx []) = H2 at sm
    have hx3 : H2 x = some (.ins C dx []) := by rw [← hH2]; exact upd_same
    have f2 := f1.same sm
    have nx : ∀ {b : Addr}, Own κ G1 b → H1 b ≠ none := fun {b} z e => by
      obtain ⟨u, eu, _⟩ := f1.live z
      rw [e] at eu; cases eu
    have f3 := f2.snoc (c := fun y => y = .ref x) (o := oInD K C) (x := .ref x) (d := .dict []) (F := [x]) rfl ⟨x, dx, [], [], rfl, rfl, rfl, hx3, .nil⟩ fun b hb z => by
      rw [List.mem_singleton] at hb
      subst hb
      exact nx z hx
    have a2 : Arg K κ σ H2 ks is vs ds := Arg.kp (.of_same sm) ar
    have lt : ∀ i, some i ∈ is → i < κ.length := a2.lt
    have lt' : ∀ i, some i ∈ is → i < ρ1.length := fun i hi => by have := lt i hi; rw [f1.l2, ← f1.l1]; exact this
    have nt' : NoTwice (some κ.length :: is) := fun j j' i h h' => by
      cases j with
      | zero =>
        cases j' with
        | zero => rfl
        | succ j' =>
          simp at h h'
          subst h
          exact absurd (lt _ (List.mem_of_getElem? h')) (Nat.lt_irrefl _)
      | succ j =>
        cases j' with
        | zero =>
          simp at h h'
          subst h'
          exact absurd (lt _ (List.mem_of_getElem? h)) (Nat.lt_irrefl _)
        | succ j' => rw [nt j j' i (by simpa using h) (by simpa using h')]
    have ar3 : Arg K (κ ++ [.ow (fun y => y = .ref x) (oInD K C)]) (σ ++ [some (.ref x)]) H2 (some (oInD K C) :: ks) (some κ.length :: is) (.ref x :: vs) (.none :: ds) :=
      .io (c := fun y => y = .ref x) (by rw [List.getElem?_append_right (Nat.le_refl _), Nat.sub_self]; rfl) (by rw [f1.l1, List.getElem?_append_right (Nat.le_refl _), Nat.sub_self]; rfl) a2.snoc
    have oldO : ∀ {b : Addr}, Own (κ ++ [.ow (fun y => y = .ref x) (oInD K C)]) (fun j => if j = κ.length then [x] else G1 j) b → Own κ G1 b ∨ b = x := fun {b} ⟨i, c, o, e, hb⟩ => by
      by_cases hi : i < κ.length
      · rw [List.getElem?_append_left hi] at e
        dsimp only at hb
        rw [if_neg (Nat.ne_of_lt hi)] at hb
        exact .inl ⟨i, c, o, e, hb⟩
      · have : i = κ.length := by
          have := (List.getElem?_eq_some_iff.mp e).1
          simp at this
          omega
        subst this
        dsimp only at hb
        rw [if_pos rfl] at hb
        exact .inr (by simpa using hb)
    have non2 : ∀ b, H2 b = none → H1 b = none := fun b z => Same.non sm z
    -- what is owned behind
    have mk : ∀ {H3 : Hp} {G3 : Nat → List Addr}, Rel H2 (Own (κ ++ [.ow (fun y => y = .ref x) (oInD K C)]) (fun j => if j = κ.length then [x] else G1 j)) H3 (Own (κ ++ [.ow (fun y => y = .ref x) (oInD K C)]) G3) →
        Rel H (Own κ G0) H3 (Own κ G3) := fun {H3 G3} r => by
      refine r1.trans ⟨fun b u hb n => r.keep b u (sm b u hb) fun z => ?_, fun b z => ?_, fun b z => non2 b (r.non b z)⟩
      · rcases oldO z with z | z
        · exact n z
        · rw [z, hx] at hb; cases hb
      · obtain ⟨i, c, o, e, hb⟩ := z
        rcases r.new b ⟨i, c, o, by rw [List.getElem?_append_left (List.getElem?_eq_some_iff.mp e).1]; exact e, hb⟩ with z | z
        · rcases oldO z with z | z
          · exact .inl z
          · exact .inr (by rw [z]; exact hx)
        · exact .inr (non2 b z)
    have ei : insIo (some κ.length :: is) (.none :: ds) (ρ1 ++ [.dict []]) = .dict [] :: insIo is ds ρ1 := by
      rw [insIo, insIo_snoc lt', List.getD_eq_getElem?_getD, f1.l1, ← f1.l2, List.getElem?_append_right (Nat.le_refl _), Nat.sub_self]
      rfl
    have el : κ.length = ρ1.length := by rw [f1.l1, f1.l2]
    have ep : ∀ {e : PyData} {es : Ev}, putIo (some κ.length :: is) (e :: es) (ρ1 ++ [.dict []]) = putIo is es ρ1 ++ [e] := fun {e es} => by
      rw [putIo, el, List.set_append_right _ _ (Nat.le_refl _), Nat.sub_self]
      exact putIo_snoc lt'
    refine call_step (pu := false) (κ := κ ++ [.ow (fun y => y = .ref x) (oInD K C)]) (W := fun cls dd _ H => W cls dd σ H) (σ := σ ++ [some (.ref x)]) nt' (.refl ..) (fun z => nomatch z) f3 ar3 ?_
    rw [ei]
    cases eD : D (.dict [] :: insIo is ds ρ1) with
    | bad => rw [eD] at q; exact q
    | ex c p es =>
      rw [eD] at q
      cases es with
      | nil => exact q.elim
      | cons e0 es =>
        dsimp only at q ⊢
        rw [ep]
        intro cls dd H3 G3 xo f4 r4
        exact q cls dd H3 G3 xo f4.unsnoc (mk r4)
    | ok r es =>
      rw [eD] at q
      have er : r = .none := by cases r <;> first | rfl | exact q.elim
      subst er
      cases es with
      | nil => exact q.elim
      | cons e0 es =>
        dsimp only at q ⊢
        rw [ep]
        intro v H3 G3 F f4 r4 s4 ok n4
        have h0 := f4.ok κ.length (.ow (fun y => y = .ref x) (oInD K C)) (by rw [List.getElem?_append_right (Nat.le_refl _), Nat.sub_self]; rfl)
        obtain ⟨v0, d0, g1, g2, g3, a, dx', fs, ds', g4, g5, g6, g7, g8⟩ := h0
        have pl : (putIo is es ρ1).length = κ.length := by rw [putIo_len, el]
        rw [List.getElem?_append_right (by rw [pl]; exact Nat.le_refl _), pl, Nat.sub_self] at g2
        have g2 : e0 = d0 := by simpa using g2
        have g3 : v0 = .ref x := g3
        rw [g3] at g4
        cases g4
        subst g2
        subst g6
        dsimp only at q
        split at q
        · rename_i hko
          obtain ⟨k1, k2⟩ := keysOk_ok g8 hko
          refine ⟨ok.pks.none, q (.ref x) H3 G3 [x] f4.unsnoc (mk r4) (fun z => nomatch z) ⟨x, dx', fs, _, rfl, rfl, rfl, g7, k1, k2⟩ fun b hb => ?_⟩
          · rw [List.mem_singleton] at hb
            subst hb
            refine ⟨.inr (r1.non _ hx), fun z => ?_⟩
            obtain ⟨i, c, o, e, hb⟩ := z
            have hi := (List.getElem?_eq_some_iff.mp e).1
            have := f4.dj i κ.length c o _ _ (by rw [List.getElem?_append_left hi]; exact e) (by rw [List.getElem?_append_right (Nat.le_refl _), Nat.sub_self]; rfl) b hb (by rw [g5]; simp)
            omega
        · exact q.elim
section
variable {X : Cx} {κ : List SK} {W : WX} {pu : Bool} {k k' : Nat} {f C : Addr} {fd : FuncData} {ps : List Str} {ks : List (Option OP)} {is : List (Option Nat)} {D : M PyData} {fa : M (List PyData)} {x : Str} {p pos : Pos} {e : Expr} {es : List Expr} {ns : List Str}
theorem qe_make (cx : Ce X W k) (M : Mk X.K C f) (F : FnG X.prog X.w X.K X.mg X.base (L2.CX X.prog X.w) k' f fd ps (spG X.K X.mg (some (oInD X.K C) :: ks) .sh D)) (hk : k' + 1 ≤ k) (hg : Gl X x) (hm : X.mg x = some (.ref C)) (hb : L2.Binds X.K fd ps []) (ha : QP X κ W pu ks is (e :: es) fa) (nt : NoTwice is)
    (hdb : (x == ("__debug__" : Str)) = false := by decide) (he : starEach (e :: es) X.env = (false, eval e X.env) :: starEach es X.env := by rfl) (hpl : (backTo pos (starEach es X.env)).any (·.1) = false := by rfl) :
    QE X κ W false (.ow (oIns X.K C ns)) (.Call (.Name x p) (e :: es) [] pos) (eMake is ns fa D) :=
  PE.imp (pe_makeG M F cx.gd (cx.rm.mono hk) hg hm hb .nil (passAt cx.tk) ha hdb he hpl) fun _ _ _ h => make_ok nt h
end
end G

/-! G14: dicts keyed by tuples of any depth; lists written. -/
namespace G
open PySem PySem.Spec PyProof.Rows
open L2 hiding St Inv Binds

/-! ### keys -/
mutual
def keyN : PyData → Option NestedKey
  | .none => some .none
  | .bool b => some (.num (if b = true then 1 else 0))
  | .int i => some (.num i)
  | .str x => some (.text x)
  | .tuple ds => (match keyNs ds with
    | some ks => some (.tup ks)
    | none => none)
  | _ => none
def keyNs : List PyData → Option (List NestedKey)
  | [] => some []
  | d :: ds => match keyN d with
    | some k => (match keyNs ds with
      | some ks => some (k :: ks)
      | none => none)
    | none => none
end
def keq (a b : PyData) : Bool := match keyN a, keyN b with
  | some x, some y => NestedKey.beq x y
  | _, _ => false
def getN (kvs : List (PyData × PyData)) (k : PyData) : Option PyData := (kvs.find? fun kv => keq kv.1 k).map (·.2)
def putN (kvs : List (PyData × PyData)) (k v : PyData) : List (PyData × PyData) :=
  if (kvs.any fun kv => keq kv.1 k) = true then kvs.map (fun kv => if keq kv.1 k = true then (kv.1, v) else kv) else kvs ++ [(k, v)]
/-- may be a key: a tuple, not deep -/
def okKey : PyData → Bool
  | .tuple ds => (match keyN (.tuple ds) with
    | some k => decide (k.depth ≤ 8)
    | none => false)
  | _ => false
section
variable {X : Cx} {pins : List (Addr × Obj)} {σ : St} {H : Hp} {s : Shared}
mutual
theorem nk_is (I : Inv X pins σ H s) : ∀ (d : PyData) (v : V) (u : Value) (k : NestedKey), Rp X.K H v d → RelV v u → keyN d = some k → NestedIs s.heap k u
  | .none, _, u, k, r, rv, e => by
    cases r
    obtain rfl : u = Value.none := rv
    cases e; exact .none
  | .bool b, _, u, k, r, rv, e => by
    cases r
    obtain rfl : u = Value.bool b := rv
    cases e; exact .bool rfl
  | .int i, _, u, k, r, rv, e => by
    cases r
    obtain ⟨t, rfl⟩ := rv
    cases e; exact .int i t
  | .str x, _, u, k, r, rv, e => by
    cases r
    obtain ⟨t, rfl⟩ := rv
    cases e; exact .text x t
  | .tuple ds, _, u, k, r, rv, e => by
    cases r with
    | @tup a xs _ h1 h2 =>
      obtain rfl : u = Value.ref a := rv
      unfold keyN at e
      cases q : keyNs ds with
      | none => rw [q] at e; cases e
      | some ks =>
        rw [q] at e
        cases e
        obtain ⟨its, rv, p, hz⟩ := I.tuple h1
        obtain ⟨o, ho, hc, n, hd⟩ := p
        exact .tup ho hc hd (nk_all I ds xs its ks h2 rv q)
  | .list ds, _, u, k, r, rv, e => by cases e
  | .dict ds, _, u, k, r, rv, e => by cases e
theorem nk_all (I : Inv X pins σ H s) : ∀ (ds : List PyData) (vs : List V) (us : List Value) (ks : List NestedKey), RpAll X.K H vs ds → Vals vs us → keyNs ds = some ks → NestedAll s.heap ks us
  | [], _, us, ks, r, rv, e => by
    cases r
    cases rv
    cases e
    exact .nil
  | d :: ds, _, us, ks, r, rv, e => by
    cases r with
    | cons r1 r2 =>
      cases rv with
      | cons v1 v2 =>
        unfold keyNs at e
        cases q : keyN d with
        | none => rw [q] at e; cases e
        | some k =>
          rw [q] at e
          cases q2 : keyNs ds with
          | none => rw [q2] at e; cases e
          | some ks' =>
            rw [q2] at e
            cases e
            exact .cons (nk_is I d _ _ k r1 v1 q) (nk_all I ds _ _ ks' r2 v2 q2)
end
end
/-! ### the dict -/
abbrev Ent := NestedKey × Addr × Value
def RawN (P : Program) (w : World) (a : Addr) (xs : List Ent) : Heap → Prop := fun h => (a == sysModules) = false ∧ ∃ o es ep, h.get? a = some o ∧ o.ExactDict ∧ o.data = .dict es ep ∧ es.toList = xs.map (entryOfKey (nestedKind P w)) ∧ (xs.map (·.1)).Nodup
inductive RpN (K : PySem.W.Frag) (H : Hp) : List Ent → List (PyData × PyData) → Prop
  | nil : RpN K H [] []
  | cons {k : NestedKey} {q : Addr} {u : Value} {xs : List Ent} {v : V} {dk dv : PyData} {ds : List (PyData × PyData)} : keyN dk = some k → k.depth ≤ 8 → Rp K H (.ref q) dk → RelV v u → Rp K H v dv → RpN K H xs ds → RpN K H ((k, q, u) :: xs) ((dk, dv) :: ds)
section
variable {K : PySem.W.Frag} {H H' : Hp}
theorem RpN.kp (k : Kp H H') {xs : List Ent} {ds : List (PyData × PyData)} (h : RpN K H xs ds) : RpN K H' xs ds := by
  induction h with
  | nil => exact .nil
  | cons a b c d e f ih => exact .cons a b (Rp.kp k _ _ c) d (Rp.kp k _ _ e) ih
theorem RpN.len {xs : List Ent} {ds : List (PyData × PyData)} (h : RpN K H xs ds) : xs.length = ds.length := by
  induction h with
  | nil => rfl
  | cons a b c d e f ih => rw [List.length_cons, List.length_cons, ih]
theorem keq_dec {a b : PyData} {x y : NestedKey} (ha : keyN a = some x) (hb : keyN b = some y) : keq a b = decide (x = y) := by
  unfold keq
  rw [ha, hb]
  exact (NestedKey.decide_eq x y).symm
theorem RpN.get {xs : List Ent} {ds : List (PyData × PyData)} {dk : PyData} {k : NestedKey} (h : RpN K H xs ds) (hk : keyN dk = some k) : (atKey xs k = none ∧ getN ds dk = none) ∨ ∃ q u v dv, atKey xs k = some (q, u) ∧ getN ds dk = some dv ∧ RelV v u ∧ Rp K H v dv := by
  induction h with
  | nil => exact .inl ⟨rfl, rfl⟩
  | @cons k' q u xs v dk' dv ds a b c d e f ih =>
    have q1 := keq_dec a hk
    by_cases z : k' = k
    · have e1 : keq dk' dk = true := by rw [q1]; simp [z]
      refine .inr ⟨q, u, v, dv, ?_, ?_, d, e⟩
      · simp [atKey, List.find?_cons, z]
      · simp [getN, List.find?_cons, e1]
    · have e1 : keq dk' dk = false := by rw [q1]; simp [z]
      have e2 : atKey ((k', q, u) :: xs) k = atKey xs k := by simp [atKey, List.find?_cons, z]
      have e3 : getN ((dk', dv) :: ds) dk = getN ds dk := by simp [getN, List.find?_cons, e1]
      rw [e2, e3]
      exact ih
theorem RpN.any {xs : List Ent} {ds : List (PyData × PyData)} {dk : PyData} {k : NestedKey} (h : RpN K H xs ds) (hk : keyN dk = some k) : (ds.any fun kv => keq kv.1 dk) = (atKey xs k).isSome := by
  induction h with
  | nil => rfl
  | @cons k' q u xs v dk' dv ds a b c d e f ih =>
    have q1 := keq_dec a hk
    rw [List.any_cons, ih, q1]
    by_cases z : k' = k
    · simp [atKey, List.find?_cons, z]
    · have e2 : atKey ((k', q, u) :: xs) k = atKey xs k := by simp [atKey, List.find?_cons, z]
      rw [e2]
      simp [z]
theorem RpN.snoc {xs ys : List Ent} {ds es : List (PyData × PyData)} (h : RpN K H xs ds) (h2 : RpN K H ys es) : RpN K H (xs ++ ys) (ds ++ es) := by
  induction h with
  | nil => exact h2
  | cons a b c d e f ih => exact .cons a b c d e ih
theorem RpN.put {xs : List Ent} {ds : List (PyData × PyData)} {dk dv : PyData} {k : NestedKey} {q : Addr} {v : V} {u : Value} (h : RpN K H xs ds) (hk : keyN dk = some k) (hd : k.depth ≤ 8) (rk : Rp K H (.ref q) dk) (rv : RelV v u) (r : Rp K H v dv) : RpN K H (storedH xs k q u) (putN ds dk dv) := by
  unfold storedH putN
  rw [h.any hk]
  by_cases z : (atKey xs k).isSome = true
  · rw [if_pos z, if_pos z]
    clear z
    induction h with
    | nil => exact .nil
    | @cons k' q' u' xs v' dk' dv' ds a b c d e f ih =>
      rw [List.map_cons, List.map_cons]
      have q1 := keq_dec a hk
      by_cases z : k' = k
      · have e1 : keq dk' dk = true := by rw [q1]; simp [z]
        rw [show putAt k u (k', q', u') = (k', q', u) from by simp [putAt, z]]
        dsimp only
        rw [if_pos e1]
        exact .cons a b c rv r ih
      · have e1 : keq dk' dk = false := by rw [q1]; simp [z]
        rw [show putAt k u (k', q', u') = (k', q', u') from by simp [putAt, z]]
        dsimp only
        rw [if_neg (by rw [e1]; exact Bool.false_ne_true)]
        exact .cons a b c d e ih
  · rw [if_neg z, if_neg z]
    exact h.snoc (.cons hk hd rk rv r .nil)
end
/-- a slot's own dict, keyed by tuples -/
def oDN (K : PySem.W.Frag) (P : Program) (w : World) : OP where
  p := fun H v d F => ∃ a xs ds, v = .ref a ∧ F = [a] ∧ d = .dict ds ∧ H a = some (.ext (RawN P w a xs)) ∧ RpN K H xs ds ∧ ds.length ≤ sizeLine
  frame := by
    rintro H H' v d F ⟨a, xs, ds, rfl, rfl, rfl, h1, h2, h3⟩ hF k
    exact ⟨a, xs, ds, rfl, rfl, rfl, (hF a (by simp)).trans h1, h2.kp k, h3⟩
  live := by
    rintro H v d F ⟨a, xs, ds, rfl, rfl, rfl, h1, h2, h3⟩ b hb
    rw [List.mem_singleton] at hb
    exact ⟨_, by rw [hb]; exact h1, rfl⟩
section
variable {X : Cx} {pins : List (Addr × Obj)} {σ : St} {H : Hp} {s : Shared} {a : Addr} {xs : List Ent} {ds : List (PyData × PyData)}
theorem raw_stay {P : Program} {w : World} : ∀ h1 h2 : Heap, RawN P w a xs h1 → (∀ o, h1.get? a = some o → h2.get? a = some o) → RawN P w a xs h2 := fun h1 h2 ⟨n, o, es, ep, ho, r⟩ k => ⟨n, o, es, ep, k _ ho, r⟩
theorem raw_at (I : Inv X pins σ H s) (h : H a = some (.ext (RawN X.prog X.w a xs))) (r : RpN X.K H xs ds) : (a == sysModules) = false ∧ s.heap.DictOfH (nestedKind X.prog X.w) a xs := by
  obtain ⟨⟨n, o, es, ep, ho, hx, hd, he, hn⟩, _, _⟩ := I.hok a _ h
  have key : ∀ {ys : List Ent} {es : List (PyData × PyData)}, RpN X.K H ys es → ∀ x ∈ ys, (nestedKind X.prog X.w).is s.heap x.1 x.2.1 := by
    intro ys es r
    induction r with
    | nil => intro x hx; cases hx
    | cons a b c d e f ih =>
      intro x hx
      rcases List.mem_cons.mp hx with z | z
      · subst z; exact ⟨nk_is I _ _ _ _ c rfl a, b⟩
      · exact ih x z
  exact ⟨n, o, es, ep, ho, hx, hd, he, key r, hn⟩
theorem okKey_ok {dk : PyData} (h : okKey dk = true) : ∃ k, keyN dk = some k ∧ k.depth ≤ 8 ∧ ∃ es, dk = .tuple es := by
  cases dk with
  | tuple es =>
    unfold okKey at h
    dsimp only at h
    cases e : keyN (.tuple es) with
    | none => rw [e] at h; cases h
    | some k => rw [e] at h; exact ⟨k, rfl, of_decide_eq_true h, es, rfl⟩
  | _ => cases h
theorem key_at (I : Inv X pins σ H s) {x : V} {u : Value} {dk : PyData} {k : NestedKey} (r : Rp X.K H x dk) (rv : RelV x u) (hk : keyN dk = some k) (hd : k.depth ≤ 8) (ht : ∃ es, dk = .tuple es) : ∃ q, u = .ref q ∧ x = .ref q ∧ (nestedKind X.prog X.w).is s.heap k q := by
  obtain ⟨es, rfl⟩ := ht
  cases r with
  | @tup q ys _ h1 h2 =>
    obtain rfl : u = Value.ref q := rv
    exact ⟨q, rfl, rfl, nk_is I _ _ _ _ (.tup h1 h2) rfl hk, hd⟩
/-- k in d -/
def rInN (X : Cx) (neg : Bool) : R2 := fun x y H Q => ∃ a dk xs ds, Rp X.K H x dk ∧ okKey dk = true ∧ y = .ref a ∧ H a = some (.ext (RawN X.prog X.w a xs)) ∧ RpN X.K H xs ds ∧ Q (.bl (if neg = true then !(getN ds dk).isSome else (getN ds dk).isSome)) H
theorem getN_some {dk : PyData} {k : NestedKey} (r : RpN X.K H xs ds) (hk : keyN dk = some k) : (getN ds dk).isSome = (atKey xs k).isSome := by
  rcases r.get hk with ⟨e1, e2⟩ | ⟨_, _, _, _, e1, e2, _, _⟩ <;> rw [e1, e2] <;> rfl
theorem op_inN (hu : X.A.units + 64 < cLine) : OpR X (compareOp .In) (rInN X false) := by
  intro pins s σ H x y v u Q I rx ry q
  obtain ⟨a, dk, xs, ds, rk, ok, rfl, ha, r, q⟩ := q
  obtain rfl : u = Value.ref a := ry
  obtain ⟨k, hk, hd, ht⟩ := okKey_ok ok
  obtain ⟨p, rfl, rfl, ik⟩ := key_at I rk rx hk hd ht
  obtain ⟨n, dh⟩ := raw_at I ha r
  refine wpAny_in_heap (knd := nestedKind X.prog X.w) (by show X.A.units + 1 + 8 < cLine; omega) ik n dh ?_
  rw [if_neg Bool.false_ne_true, getN_some r hk] at q
  exact ⟨.bl (atKey xs k).isSome, H, I.tok _, rfl, q⟩
theorem op_notInN (hu : X.A.units + 64 < cLine) : OpR X (compareOp .NotIn) (rInN X true) := by
  intro pins s σ H x y v u Q I rx ry q
  obtain ⟨a, dk, xs, ds, rk, ok, rfl, ha, r, q⟩ := q
  obtain rfl : u = Value.ref a := ry
  obtain ⟨k, hk, hd, ht⟩ := okKey_ok ok
  obtain ⟨p, rfl, rfl, ik⟩ := key_at I rk rx hk hd ht
  obtain ⟨n, dh⟩ := raw_at I ha r
  rw [if_pos rfl, getN_some r hk] at q
  show wpAny _ _ (do return Value.bool (!(← contains (.ref a) (.ref p)))) _ _ s
  exact wpAny_bind (wpAny_contains_heap (knd := nestedKind X.prog X.w) (by show X.A.units + 1 + 8 < cLine; omega) ik n dh (wpAny_pure ⟨.bl (!(atKey xs k).isSome), H, I.tok _, rfl, q⟩))
/-- d[k] -/
theorem pe_getN {o i : Expr} {td ty : TE} {pos : Pos} (hu : X.A.units + 64 < cLine) (ho : PE X o td) (hi : PE X i ty) (hs : NoSl i) :
    PE X (.Subscript o i pos) (fun σ H Q => td σ H fun x H1 => ty σ H1 fun y H2 => ∃ a dk xs ds dv, Rp X.K H2 y dk ∧ okKey dk = true ∧ x = .ref a ∧ H2 a = some (.ext (RawN X.prog X.w a xs)) ∧ RpN X.K H2 xs ds ∧ getN ds dk = some dv ∧ ∀ v, Rp X.K H2 v dv → Q v H2) := by
  refine ⟨fun pins s σ H Q I h => ?_⟩
  refine subD_of PySem.F.slot_dict_getitem.lookup hs (thn (ho.run pins s σ H _ I h) fun u s1 ⟨x, H1, I1, rx, q1⟩ => thn (hi.run pins s1 σ H1 _ I1 q1) fun iv s2 ⟨y, H2, I2, ry, a, dk, xs, ds, dv, rk, ok, ex, ha, r, hg, q2⟩ => ?_)
  subst ex
  obtain rfl : u = Value.ref a := rx
  obtain ⟨k, hk, hd, ht⟩ := okKey_ok ok
  obtain ⟨p, rfl, rfl, ik⟩ := key_at I2 rk ry hk hd ht
  obtain ⟨n, dh⟩ := raw_at I2 ha r
  refine ⟨dh.typeIs, ?_⟩
  rcases r.get hk with ⟨e1, e2⟩ | ⟨q, u, v, dv', e1, e2, rv, rp⟩
  · rw [e2] at hg; cases hg
  · rw [e2] at hg; cases hg
    exact wpAny_getItem_heap (knd := nestedKind X.prog X.w) (by show X.A.units + 1 + 8 < cLine; omega) ik dh e1 ⟨v, H2, I2.tok _, rv, q2 v rp⟩
/-- d[k] = v -/
theorem set_N (hu : X.A.units + 64 < cLine) : PSet X (fun o i v H Q => ∃ a dk dv xs ds, o = .ref a ∧ Rp X.K H i dk ∧ okKey dk = true ∧ Rp X.K H v dv ∧ H a = some (.ext (RawN X.prog X.w a xs)) ∧ RpN X.K H xs ds ∧ ds.length < sizeLine ∧
    ∀ xs', (∀ H', Kp H H' → RpN X.K H' xs' (putN ds dk dv)) → Q (upd H a (.ext (RawN X.prog X.w a xs')))) := by
  intro pins s σ H o i v ov iv u Q I ro ri rv h
  obtain ⟨a, dk, dv, xs, ds, rfl, rk, ok, rp, ha, r, hl, q⟩ := h
  obtain rfl : ov = Value.ref a := ro
  obtain ⟨k, hk, hd, ht⟩ := okKey_ok ok
  obtain ⟨p, rfl, rfl, ik⟩ := key_at I rk ri hk hd ht
  obtain ⟨n, dh⟩ := raw_at I ha r
  refine wpAny_setItem_heap (knd := nestedKind X.prog X.w) (hsz := by rw [r.len]; omega) (by show X.A.units + 1 + 8 < cLine; omega) ik dh fun h' hm' sb => ?_
  obtain ⟨ob, es, ep, ho, hx, hdt, he, his, hn⟩ := hm'
  refine ⟨_, d_write (ob := .ext (RawN X.prog X.w a (storedH xs k p u))) (t' := s.toks + (nestedKind X.prog X.w).draws k) I (by rw [ha]; trivial) sb ⟨_, ho⟩ ⟨⟨n, ob, es, ep, ho, hx, hdt, he, hn⟩, ⟨_, ho⟩, raw_stay⟩, q _ fun H' kp => ?_⟩
  exact (r.kp kp).put hk hd (Rp.kp kp _ _ rk) rv (Rp.kp kp _ _ rp)
/-- {} -/
theorem pe_newN {pos : Pos} : PE X (.Dict [] [] pos) (fun _ H Q => ∀ p, H p = none → Q (.ref p) (upd H p (.ext (RawN X.prog X.w p [])))) := ⟨fun pins s σ H Q I h =>
  wpAny_Dict_empty ⟨.ref s.heap.objs.size, _, I.laid (a := s.heap.objs.size) (o := .ext (RawN X.prog X.w s.heap.objs.size [])) (t' := s.toks) (fun _ _ q => Heap.get?_push_of_some _ q) (Nat.le_refl _)
    ⟨⟨beq_eq_false_iff_ne.mpr (Ne.symm (Nat.ne_of_lt I.big)), _, #[], 0, Heap.get?_push_size _ rfl, ⟨rfl, rfl, rfl⟩, rfl, rfl, List.nodup_nil⟩, ⟨_, Heap.get?_push_size _ rfl⟩, raw_stay⟩, rfl, h _ (I.hok.fresh (Nat.le_refl _))⟩⟩
end
end G

/-! G15: lists and dicts written; moves; the record of draws. -/
namespace G
open PySem PySem.Spec PyProof.Rows
open L2 hiding St Inv Binds

/-! ### an own slot handed back -/
def sRetV (i : Nat) : MS := fun ρ => match ρ[i]? with
  | some d => .rt d ρ
  | none => .bad
theorem qs_retV {X : Cx} {J : Jx} {κ κn : List SK} {x : Str} {p pos : Pos} {c : V → Prop} {o : OP} (i : Nat) (hk : κ[i]? = some (.ow c o)) (hp : PE X (.Name x p) (tVar i)) (hr : J.rk = .ow o) (wr : Wk κ J.κr) (hi : J.κr[i]? = some .no) : QS X J κ κn (.Return (some (.Name x p)) pos) (sRetV i) := by
  refine PS.imp (ps_ret hp) fun D σ H ⟨ρ, G, fr, h⟩ => ?_
  obtain ⟨v, d, e1, e2, _, hp⟩ := fr.ok i _ hk
  unfold sRetV at h
  rw [e2] at h
  refine ⟨v, e1, h v σ H G (G i) (fr.weak wr) ⟨fun b u e _ => e, fun b z => ?_, fun _ z => z⟩ (by rw [hr]; exact hp) fun b hb z => ?_⟩
  · rcases z with z | z
    · exact .inl ⟨i, c, o, hk, z⟩
    · exact .inl (z.weak wr)
  · obtain ⟨j, c', o', ej, hj⟩ := z
    have ej2 : κ[j]? = some (.ow c' o') := (wr.at j _ ej).resolve_left fun z => nomatch z
    have := fr.dj i j _ _ _ _ hk ej2 b hb hj
    subst this
    rw [hi] at ej; cases ej

/-! ### found.append(e) -/
def eAppend (i : Nat) (fe : M PyData) : M PyData := fun ρ => match fe ρ with
  | .ok d ρ1 => (match ρ1[i]? with
    | some (.list ds) => if ds.length < sizeLine then .ok .none (ρ1.set i (.list (ds ++ [d]))) else .bad
    | _ => .bad)
  | .ex c p ρ' => .ex c p ρ'
  | .bad => .bad
section
variable {X : Cx} {κ : List SK} {W : WX} {pu : Bool} {x : Str} {p apos cpos : Pos} {e : Expr} {fe : M PyData} {c : V → Prop}
theorem qe_append (i : Nat) (hk : κ[i]? = some (.ow c (oLst X.K))) (hp : PE X (.Name x p) (tVar i)) (he : QE X κ W pu .sh e fe)
    (hbase : attributeBase (.Name x p) "append" X.env (eval (.Name x p) X.env) = eval (.Name x p) X.env := by rfl)
    (hfew : ((backTo cpos (starEach [e] X.env)).all (fun x => !x.1) && (backToKw cpos (keywordEach [] X.env)).all (fun x => x.1.isSome)
      && decide (([e] : List Expr).length + ([] : List Keyword).length + (if ([] : List Keyword).isEmpty then 0 else 1) < 30)) = true := by rfl)
    (hline : (apos.endLine == cpos.line) = true := by rfl) (hs : starEach [e] X.env = (false, eval e X.env) :: starEach [] X.env := by rfl) (hplain : (backTo cpos (starEach [] X.env)).any (·.1) = false := by rfl) :
    QE X κ W false .sh (.Call (.Attribute (.Name x p) "append" apos) [e] [] cpos) (eAppend i fe) := by
  refine PE.imp (pe_bm PySem.F.plainAttrs_list PySem.F.slot_list_append PySem.F.type_list_append mt_append hp (pa_cons he pa_nil hs) hbase hfew hline hs hplain) fun σ H Q ⟨ρ, G, fr, q⟩ => ?_
  obtain ⟨v, d, e1, e2, _, a, xs, ds, rfl, eG, rfl, h1, h2⟩ := fr.ok i _ hk
  refine ⟨_, e1, .inl ⟨rfl, xs, .of h1⟩, ρ, G, fr, ?_⟩
  unfold eAppend at q
  cases e3 : fe ρ with
  | bad => rw [e3] at q; exact q
  | ex c p ρ' => rw [e3] at q; exact q
  | ok d ρ1 =>
    rw [e3] at q
    intro y H1 G1 F1 f1 r1 s1 ok1 n1
    obtain ⟨v', d', e1', e2', _, a', xs', ds', rfl, eG', rfl, h1', h2'⟩ := f1.ok i _ hk
    rw [e1] at e1'
    cases e1'
    dsimp only at q
    rw [e2'] at q
    dsimp only at q
    split at q
    · rename_i hl
      have k : Kp H1 (upd H1 a (.lst (xs' ++ [y]))) := kp_upd h1' rfl
      have hm : a ∈ G1 i := by rw [eG']; simp
      have ne : ∀ b u, b ∉ G1 i → H1 b = some u → (upd H1 a (.lst (xs' ++ [y]))) b = some u := fun b u hb e => upd_other hm hb e
      refine ⟨a, xs', y, rfl, rfl, h1', by rw [h2'.len]; exact hl, q .non _ G1 [] (f1.wr hk e1 ⟨a, _, _, rfl, eG', rfl, upd_same, (RpAll.kp k _ _ h2').append (.cons (Rp.kp k _ _ ok1.1) .nil)⟩ k ne) (r1.trans (Rel.wr hk ne fun b z => upd_none z)) (fun z => nomatch z) ⟨.non, rfl⟩ fun _ z => nomatch z⟩
    · exact q.elim
end
/-! ### xs[k] = v of an own list -/
def sPutL (i : Nat) (fv fk : M PyData) : MS := fun ρ => match fv ρ with
  | .ok d ρ1 => (match fk ρ1 with
    | .ok k ρ2 => (match k, ρ2[i]? with
      | .int k, some (.list ds) => (match ixN ds.length k with
        | some j => .nx (ρ2.set i (.list (ds.set j d)))
        | none => .bad)
      | _, _ => .bad)
    | .ex c p ρ' => .ex c p ρ'
    | .bad => .bad)
  | .ex c p ρ' => .ex c p ρ'
  | .bad => .bad
section
variable {X : Cx} {J : Jx} {κ : List SK} {pv pk : Bool} {x : Str} {p tpos pos : Pos} {e ke : Expr} {fv fk : M PyData} {c : V → Prop}
theorem qs_putL (i : Nat) (hk : κ[i]? = some (.ow c (oLst X.K))) (hp : PE X (.Name x p) (tVar i)) (hv : QE X κ J.W pv .sh e fv) (hi : QE X κ J.W pk .sh ke fk) (wx : Wk κ J.κx)
    (hs : swapsWithSole [.Subscript (.Name x p) ke tpos] e pos.line X.env = pure false := by rfl) (hw : swappedStores [.Subscript (.Name x p) ke tpos] e X.env = pure none := by rfl)
    (h1 : (assignEach [.Subscript (.Name x p) ke tpos] X.env).map (·.2) = [assign (.Subscript (.Name x p) ke tpos) X.env] := by rfl)
    (ha : ∀ v, assign (.Subscript (.Name x p) ke tpos) X.env v = (do
      let ov ← holding [v] (eval (.Name x p) X.env)
      let iv ← holding [v, ov] (eval ke X.env)
      standAt tpos
      holding [v, ov, iv] (setItem ov iv v)
      release [v, ov, iv] []) := by intro _; rfl) :
    QS X J κ κ (.Assign [.Subscript (.Name x p) ke tpos] e pos) (sPutL i fv fk) := by
  refine PS.imp (ps_asg hv (pg_sub hp hi set_list ha) hs hw h1) fun D σ H ⟨ρ, G, fr, h⟩ => ⟨ρ, G, fr, ?_⟩
  unfold sPutL at h
  cases e1 : fv ρ with
  | bad => rw [e1] at h; exact h
  | ex c p ρ' => rw [e1] at h; exact fun cls dd H' G' x f' r' => h cls dd σ H' G' x (f'.weak wx) (r'.sub fun b z => z.weak wx)
  | ok d ρ1 =>
    rw [e1] at h
    intro y H1 G1 F1 f1 r1 s1 ok1 n1
    obtain ⟨v, d0, q1, q2, _, a, xs, ds, rfl, eG, rfl, g1, g2⟩ := f1.ok i _ hk
    refine ⟨_, q1, ρ1, G1, f1, ?_⟩
    dsimp only at h
    cases e2 : fk ρ1 with
    | bad => rw [e2] at h; exact h
    | ex c p ρ' => rw [e2] at h; exact fun cls dd H' G' x f' r' => h cls dd σ H' G' x (f'.weak wx) ((r1.trans r').sub fun b z => z.weak wx)
    | ok k ρ2 =>
      rw [e2] at h
      intro kv H2 G2 F2 f2 r2 s2 ok2 n2
      obtain ⟨v', d', q1', q2', _, a', xs', ds', rfl, eG', rfl, g1', g2'⟩ := f2.ok i _ hk
      rw [q1] at q1'
      cases q1'
      dsimp only at h
      rw [q2'] at h
      cases k with
      | int k =>
        dsimp only at h
        cases e3 : ixN ds'.length k with
        | none => rw [e3] at h; exact h.elim
        | some j =>
          rw [e3] at h
          have kp : Kp H2 (upd H2 a (.lst (xs'.set j y))) := kp_upd g1' rfl
          have hm : a ∈ G2 i := by rw [eG']; simp
          have ne : ∀ b u, b ∉ G2 i → H2 b = some u → (upd H2 a (.lst (xs'.set j y))) b = some u := fun b u hb e => upd_other hm hb e
          refine ⟨a, xs', k, j, rfl, ok2.pks.int, g1', by rw [g2'.len]; exact e3, ?_⟩
          refine h σ _ G2 (f2.wr hk q1 ⟨a, _, _, rfl, eG', rfl, upd_same, (RpAll.kp kp _ _ g2').set j (Rp.kp kp _ _ (Rp.kp (f1.kp r2) _ _ ok1.1))⟩ kp ne) ((r1.trans r2).trans (Rel.wr hk ne fun b z => upd_none z))
      | _ => exact h.elim
end

/-! ### dicts keyed by tuples -/
def eInN (neg : Bool) (i : Nat) (fk : M PyData) : M PyData := fun ρ => match fk ρ with
  | .ok k ρ1 => (match ρ1[i]? with
    | some (.dict ds) => if okKey k = true then .ok (.bool (if neg = true then !(getN ds k).isSome else (getN ds k).isSome)) ρ1 else .bad
    | _ => .bad)
  | .ex c p ρ' => .ex c p ρ'
  | .bad => .bad
def eGetN (i : Nat) (fk : M PyData) : M PyData := fun ρ => match fk ρ with
  | .ok k ρ1 => (match ρ1[i]? with
    | some (.dict ds) => if okKey k = true then (match getN ds k with
      | some d => .ok d ρ1
      | none => .bad) else .bad
    | _ => .bad)
  | .ex c p ρ' => .ex c p ρ'
  | .bad => .bad
def sPutN (i : Nat) (fv fk : M PyData) : MS := fun ρ => match fv ρ with
  | .ok d ρ1 => (match fk ρ1 with
    | .ok k ρ2 => (match ρ2[i]? with
      | some (.dict ds) => if okKey k = true then (if ds.length < sizeLine then .nx (ρ2.set i (.dict (putN ds k d))) else .bad) else .bad
      | _ => .bad)
    | .ex c p ρ' => .ex c p ρ'
    | .bad => .bad)
  | .ex c p ρ' => .ex c p ρ'
  | .bad => .bad
theorem putN_len (ds : List (PyData × PyData)) (k v : PyData) : (putN ds k v).length ≤ ds.length + 1 := by
  unfold putN
  split
  · rw [List.length_map]; omega
  · rw [List.length_append]; exact Nat.le_refl _
section
variable {X : Cx} {J : Jx} {κ : List SK} {W : WX} {pu pv pk : Bool} {x : Str} {p tpos pos : Pos} {e ke : Expr} {fv fk : M PyData} {c : V → Prop}
theorem inN_ok {neg : Bool} {i : Nat} {σ : St} {H : Hp} {Q : VK} (hk : κ[i]? = some (.ow c (oDN X.K X.prog X.w))) (h : tE X.K X.mg κ W pu .sh (eInN neg i fk) σ H Q) : tOp (rInN X neg) (tE X.K X.mg κ W pu .sh fk) (tVar i) σ H Q := by
  obtain ⟨ρ, G, fr, q⟩ := h
  refine ⟨ρ, G, fr, ?_⟩
  unfold eInN at q
  cases e1 : fk ρ with
  | bad => rw [e1] at q; exact q
  | ex c p ρ' => rw [e1] at q; exact q
  | ok k ρ1 =>
    rw [e1] at q
    intro y H1 G1 F1 f1 r1 s1 ok1 n1
    obtain ⟨v, d0, q1, q2, _, a, xs, ds, rfl, eG, rfl, g1, g2, g3⟩ := f1.ok i _ hk
    dsimp only at q
    rw [q2] at q
    dsimp only at q
    split at q
    · rename_i hok
      exact ⟨_, q1, a, k, xs, ds, ok1.1, hok, rfl, g1, g2, q _ H1 G1 [] f1 r1 s1 ⟨.bl _, rfl⟩ fun _ z => nomatch z⟩
    · exact q.elim
theorem qe_inN (i : Nat) (hu : X.A.units + 64 < cLine) (hk : κ[i]? = some (.ow c (oDN X.K X.prog X.w))) (hp : PE X (.Name x p) (tVar i)) (ha : QE X κ W pu .sh e fk) (hm : behindInMarks .In (.Name x p) = false := by rfl) : QE X κ W pu .sh (.Compare e [.In] [.Name x p] pos) (eInN false i fk) :=
  PE.imp (pe_cmpR (op_inN hu) ha hp hm) fun _ _ _ h => inN_ok hk h
theorem qe_notInN (i : Nat) (hu : X.A.units + 64 < cLine) (hk : κ[i]? = some (.ow c (oDN X.K X.prog X.w))) (hp : PE X (.Name x p) (tVar i)) (ha : QE X κ W pu .sh e fk) (hm : behindInMarks .NotIn (.Name x p) = false := by rfl) : QE X κ W pu .sh (.Compare e [.NotIn] [.Name x p] pos) (eInN true i fk) :=
  PE.imp (pe_cmpR (op_notInN hu) ha hp hm) fun _ _ _ h => inN_ok hk h
theorem qt_inN (i : Nat) (hu : X.A.units + 64 < cLine) (hk : κ[i]? = some (.ow c (oDN X.K X.prog X.w))) (hp : PE X (.Name x p) (tVar i)) (ha : QE X κ W pu .sh e fk) (hm : behindInMarks .In (.Name x p) = false := by rfl) : QT X κ W pu (.Compare e [.In] [.Name x p] pos) (eTst asB (eInN false i fk)) :=
  PT.imp (pt_cmpR (op_inN hu) ha hp hm) fun _ _ _ h => inN_ok hk (tst_ok (ka := .sh) trivial h fun _ _ _ r p e q => ⟨r, asB_pk p e, q⟩)
theorem qt_notInN (i : Nat) (hu : X.A.units + 64 < cLine) (hk : κ[i]? = some (.ow c (oDN X.K X.prog X.w))) (hp : PE X (.Name x p) (tVar i)) (ha : QE X κ W pu .sh e fk) (hm : behindInMarks .NotIn (.Name x p) = false := by rfl) : QT X κ W pu (.Compare e [.NotIn] [.Name x p] pos) (eTst asB (eInN true i fk)) :=
  PT.imp (pt_cmpR (op_notInN hu) ha hp hm) fun _ _ _ h => inN_ok hk (tst_ok (ka := .sh) trivial h fun _ _ _ r p e q => ⟨r, asB_pk p e, q⟩)
theorem qe_getN (i : Nat) (hu : X.A.units + 64 < cLine) (hk : κ[i]? = some (.ow c (oDN X.K X.prog X.w))) (hp : PE X (.Name x p) (tVar i)) (ha : QE X κ W pu .sh ke fk) (hs : NoSl ke) : QE X κ W pu .sh (.Subscript (.Name x p) ke pos) (eGetN i fk) := by
  refine PE.imp (pe_getN hu hp ha hs) fun σ H Q ⟨ρ, G, fr, q⟩ => ?_
  obtain ⟨v, d0, q1, q2, _, a, xs, ds, rfl, eG, rfl, g1, g2, g3⟩ := fr.ok i _ hk
  refine ⟨_, q1, ρ, G, fr, ?_⟩
  unfold eGetN at q
  cases e1 : fk ρ with
  | bad => rw [e1] at q; exact q
  | ex c p ρ' => rw [e1] at q; exact q
  | ok k ρ1 =>
    rw [e1] at q
    intro y H1 G1 F1 f1 r1 s1 ok1 n1
    obtain ⟨v', d0', q1', q2', _, a', xs', ds', rfl, eG', rfl, g1', g2', g3'⟩ := f1.ok i _ hk
    rw [q1] at q1'
    cases q1'
    dsimp only at q
    rw [q2'] at q
    dsimp only at q
    split at q
    · rename_i hok
      cases e2 : getN ds' k with
      | none => rw [e2] at q; exact q.elim
      | some d =>
        rw [e2] at q
        exact ⟨a, k, xs', ds', d, ok1.1, hok, rfl, g1', g2', e2, fun v r => q v H1 G1 [] f1 r1 s1 ⟨r, rfl⟩ fun _ z => nomatch z⟩
    · exact q.elim
theorem qe_newN {pos : Pos} : QE X κ W true (.ow (oDN X.K X.prog X.w)) (.Dict [] [] pos) (eK (.dict [])) :=
  PE.imp pe_newN fun σ H Q ⟨ρ, G, f, h⟩ p hp => val_ok f h (same_upd0 hp) ⟨p, [], [], rfl, rfl, rfl, upd_same, .nil, Nat.zero_le _⟩ fun b hb => by
    rw [List.mem_singleton] at hb
    rw [hb]; exact hp
theorem qs_putN (i : Nat) (hu : X.A.units + 64 < cLine) (hk : κ[i]? = some (.ow c (oDN X.K X.prog X.w))) (hp : PE X (.Name x p) (tVar i)) (hv : QE X κ J.W pv .sh e fv) (hi : QE X κ J.W pk .sh ke fk) (wx : Wk κ J.κx)
    (hs : swapsWithSole [.Subscript (.Name x p) ke tpos] e pos.line X.env = pure false := by rfl) (hw : swappedStores [.Subscript (.Name x p) ke tpos] e X.env = pure none := by rfl)
    (h1 : (assignEach [.Subscript (.Name x p) ke tpos] X.env).map (·.2) = [assign (.Subscript (.Name x p) ke tpos) X.env] := by rfl)
    (ha : ∀ v, assign (.Subscript (.Name x p) ke tpos) X.env v = (do
      let ov ← holding [v] (eval (.Name x p) X.env)
      let iv ← holding [v, ov] (eval ke X.env)
      standAt tpos
      holding [v, ov, iv] (setItem ov iv v)
      release [v, ov, iv] []) := by intro _; rfl) :
    QS X J κ κ (.Assign [.Subscript (.Name x p) ke tpos] e pos) (sPutN i fv fk) := by
  refine PS.imp (ps_asg hv (pg_sub hp hi (set_N hu) ha) hs hw h1) fun D σ H ⟨ρ, G, fr, h⟩ => ⟨ρ, G, fr, ?_⟩
  unfold sPutN at h
  cases e1 : fv ρ with
  | bad => rw [e1] at h; exact h
  | ex c p ρ' => rw [e1] at h; exact fun cls dd H' G' x f' r' => h cls dd σ H' G' x (f'.weak wx) (r'.sub fun b z => z.weak wx)
  | ok d ρ1 =>
    rw [e1] at h
    intro y H1 G1 F1 f1 r1 s1 ok1 n1
    obtain ⟨v, d0, q1, q2, _, a, xs, ds, rfl, eG, rfl, g1, g2, g3⟩ := f1.ok i _ hk
    refine ⟨_, q1, ρ1, G1, f1, ?_⟩
    dsimp only at h
    cases e2 : fk ρ1 with
    | bad => rw [e2] at h; exact h
    | ex c p ρ' => rw [e2] at h; exact fun cls dd H' G' x f' r' => h cls dd σ H' G' x (f'.weak wx) ((r1.trans r').sub fun b z => z.weak wx)
    | ok k ρ2 =>
      rw [e2] at h
      intro kv H2 G2 F2 f2 r2 s2 ok2 n2
      obtain ⟨v', d', q1', q2', _, a', xs', ds', rfl, eG', rfl, g1', g2', g3'⟩ := f2.ok i _ hk
      rw [q1] at q1'
      cases q1'
      dsimp only at h
      rw [q2'] at h
      dsimp only at h
      split at h
      · rename_i hok
        split at h
        · rename_i hl
          refine ⟨a, k, d, xs', ds', rfl, ok2.1, hok, Rp.kp (f1.kp r2) _ _ ok1.1, g1', g2', hl, fun xs2 hr => ?_⟩
          have kp : Kp H2 (upd H2 a (.ext (RawN X.prog X.w a xs2))) := kp_upd g1' rfl
          have hm : a ∈ G2 i := by rw [eG']; simp
          have ne : ∀ b u, b ∉ G2 i → H2 b = some u → (upd H2 a (.ext (RawN X.prog X.w a xs2))) b = some u := fun b u hb e => upd_other hm hb e
          refine h σ _ G2 (f2.wr hk q1 ⟨a, _, _, rfl, eG', rfl, upd_same, hr _ kp, ?_⟩ kp ne) ((r1.trans r2).trans (Rel.wr hk ne fun b z => upd_none z))
          have := putN_len ds' k d
          omega
        · exact h.elim
      · exact h.elim
end

/-! ### the record of draws: {'cells': list, 'great': own list, 'spot': int} -/
def oM (K : PySem.W.Frag) : OP where
  p := fun H v d F => ∃ a b c cs gs k xs, v = .ref a ∧ F = [a, b] ∧ a ≠ b ∧ d = .tuple [.list cs, .list gs, .int k] ∧ H a = some (.dK [(.inr "cells", c), (.inr "great", .ref b), (.inr "spot", .int k)]) ∧ Rp K H c (.list cs) ∧ H b = some (.lst xs) ∧ RpAll K H xs gs
  frame := by
    rintro H H' v d F ⟨a, b, c, cs, gs, k, xs, rfl, rfl, hne, rfl, h1, h2, h3, h4⟩ hF kp
    exact ⟨a, b, c, cs, gs, k, xs, rfl, rfl, hne, rfl, (hF a (by simp)).trans h1, Rp.kp kp _ _ h2, (hF b (by simp)).trans h3, RpAll.kp kp _ _ h4⟩
  live := by
    rintro H v d F ⟨a, b, c, cs, gs, k, xs, rfl, rfl, hne, rfl, h1, h2, h3, h4⟩ e he
    have : e = a ∨ e = b := by simpa using he
    rcases this with rfl | rfl
    · exact ⟨_, h1, rfl⟩
    · exact ⟨_, h3, rfl⟩
def mC : Str := "cells"
def mG : Str := "great"
def mS : Str := "spot"
/-- m's field j -/
def eM (i j : Nat) : M PyData := fun ρ => match ρ[i]? with
  | some (.tuple ds) => (match ds[j]? with
    | some d => .ok d ρ
    | none => .bad)
  | _ => .bad
section
variable {X : Cx} {κ : List SK} {W : WX} {x : Str} {p pos q2 : Pos} {j : Nat} {c : V → Prop} {jj : Option Str}
theorem qe_mC {j} (i : Nat) (hu : X.A.units + 64 < cLine) (hk : κ[i]? = some (.ow c (oM X.K))) (hp : PE X (.Name x p) (tVar i)) : QE X κ W true .sh (.Subscript (.Name x p) (.Constant (.str "cells") j q2) pos) (eM i 0) := by
  refine PE.imp (pe_dget (by omega) hp pe_str (fun _ _ => rfl)) fun σ H Q ⟨ρ, G, fr, q⟩ => ?_
  obtain ⟨v, d0, q1, q2, _, a, b, c, cs, gs, k, xs, rfl, eG, hne, rfl, h1, h2, h3, h4⟩ := fr.ok i _ hk
  unfold eM at q
  rw [q2] at q
  exact ⟨_, q1, a, c, rfl, .inl ⟨_, .inr "cells", .inl h1, rfl, by rfl⟩, val_sh fr q h2⟩
theorem qe_mS {j} (i : Nat) (hu : X.A.units + 64 < cLine) (hk : κ[i]? = some (.ow c (oM X.K))) (hp : PE X (.Name x p) (tVar i)) : QE X κ W true .sh (.Subscript (.Name x p) (.Constant (.str "spot") j q2) pos) (eM i 2) := by
  refine PE.imp (pe_dget (by omega) hp pe_str (fun _ _ => rfl)) fun σ H Q ⟨ρ, G, fr, q⟩ => ?_
  obtain ⟨v, d0, q1, q2, _, a, b, c, cs, gs, k, xs, rfl, eG, hne, rfl, h1, h2, h3, h4⟩ := fr.ok i _ hk
  unfold eM at q
  rw [q2] at q
  exact ⟨_, q1, a, .int k, rfl, .inl ⟨_, .inr "spot", .inl h1, rfl, by rfl⟩, val_sh fr q (.int k)⟩
theorem qe_mG {j} (i : Nat) (hu : X.A.units + 64 < cLine) (hk : κ[i]? = some (.ow c (oM X.K))) (hp : PE X (.Name x p) (tVar i)) : QE X κ W true .pk (.Subscript (.Name x p) (.Constant (.str "great") j q2) pos) (eM i 1) := by
  refine PE.imp (pe_dget (by omega) hp pe_str (fun _ _ => rfl)) fun σ H Q ⟨ρ, G, fr, q⟩ => ?_
  obtain ⟨v, d0, q1, q2, _, a, b, c, cs, gs, k, xs, rfl, eG, hne, rfl, h1, h2, h3, h4⟩ := fr.ok i _ hk
  unfold eM at q
  rw [q2] at q
  exact ⟨_, q1, a, .ref b, rfl, .inl ⟨_, .inr "great", .inl h1, rfl, by rfl⟩, val_ok fr q (.refl H) ⟨.lst h3 h4, rfl⟩ fun _ z => nomatch z⟩
end
/-- m's field j stored -/
def putM (i j : Nat) (d : PyData) (ρ : Ev) : Option Ev := match ρ[i]? with
  | some (.tuple ds) => if j < ds.length then some (ρ.set i (.tuple (ds.set j d))) else none
  | _ => none
def sPutM (i j : Nat) (fv : M PyData) : MS := fun ρ => match fv ρ with
  | .ok d ρ1 => (match putM i j d ρ1 with
    | some ρ2 => .nx ρ2
    | none => .bad)
  | .ex c p ρ' => .ex c p ρ'
  | .bad => .bad
def sPutMi (i j : Nat) (fv : M PyData) : MS := fun ρ => match fv ρ with
  | .ok d ρ1 => (match d with
    | .int n => (match putM i j (.int n) ρ1 with
      | some ρ2 => .nx ρ2
      | none => .bad)
    | _ => .bad)
  | .ex c p ρ' => .ex c p ρ'
  | .bad => .bad
section
variable {X : Cx} {J : Jx} {κ : List SK} {pv : Bool} {x : Str} {p tpos pos q2 : Pos} {e : Expr} {fv : M PyData} {c : V → Prop}
theorem qs_mS {j} (i : Nat) (hu : X.A.units + 64 < cLine) (hk : κ[i]? = some (.ow c (oM X.K))) (hp : PE X (.Name x p) (tVar i)) (hv : QE X κ J.W pv .sh e fv) (wx : Wk κ J.κx)
    (hs : swapsWith e (some (.Subscript (.Name x p) (.Constant (.str "spot") j q2) tpos)) pos.line X.env = pure false := by rfl) :
    QS X J κ κ (.Assign [.Subscript (.Name x p) (.Constant (.str "spot") j q2) tpos] e pos) (sPutMi i 2 fv) := by
  refine PS.imp (ps_dput (by omega) hp pe_str hv hs) fun D σ H ⟨ρ, G, fr, h⟩ => ⟨ρ, G, fr, ?_⟩
  unfold sPutMi at h
  cases e1 : fv ρ with
  | bad => rw [e1] at h; exact h
  | ex c p ρ' => rw [e1] at h; exact fun cls dd H' G' x f' r' => h cls dd σ H' G' x (f'.weak wx) (r'.sub fun b z => z.weak wx)
  | ok d ρ1 =>
    rw [e1] at h
    intro y H1 G1 F1 f1 r1 s1 ok1 n1
    obtain ⟨v, d0, q1, q2, _, a, b, c, cs, gs, k, xs, rfl, eG, hne, rfl, h1, h2, h3, h4⟩ := f1.ok i _ hk
    cases d with
    | int n =>
      obtain rfl : y = V.int n := ok1.pks.int
      dsimp only at h
      unfold putM at h
      rw [q2] at h
      have kp : Kp H1 (upd H1 a (.dK [(.inr "cells", c), (.inr "great", .ref b), (.inr "spot", .int n)])) := kp_upd h1 rfl
      have hm : a ∈ G1 i := by rw [eG]; simp
      have ne : ∀ b' u, b' ∉ G1 i → H1 b' = some u → (upd H1 a (.dK [(.inr "cells", c), (.inr "great", .ref b), (.inr "spot", .int n)])) b' = some u := fun b' u hb e => upd_other hm hb e
      refine ⟨_, q1, a, _, rfl, .inl ⟨_, .inr "spot", h1, rfl, by show 3 < sizeLine; decide, rfl⟩, ?_⟩
      refine h σ _ G1 (f1.wr hk q1 ⟨a, b, c, cs, gs, n, xs, rfl, eG, hne, rfl, ?_, Rp.kp kp _ _ h2, ?_, RpAll.kp kp _ _ h4⟩ kp ne) (r1.trans (Rel.wr hk ne fun b z => upd_none z))
      · exact upd_same
      · rw [upd_ne (Ne.symm hne)]; exact h3
    | _ => exact h.elim
/-- m['great'] = a fresh list -/
theorem qs_mG {j} (i : Nat) (hu : X.A.units + 64 < cLine) (hk : κ[i]? = some (.ow c (oM X.K))) (hp : PE X (.Name x p) (tVar i)) (hv : QE X κ J.W pv (.ow (oLst X.K)) e fv) (wx : Wk κ J.κx)
    (hs : swapsWith e (some (.Subscript (.Name x p) (.Constant (.str "great") j q2) tpos)) pos.line X.env = pure false := by rfl) :
    QS X J κ κ (.Assign [.Subscript (.Name x p) (.Constant (.str "great") j q2) tpos] e pos) (sPutM i 1 fv) := by
  refine PS.imp (ps_dput (by omega) hp pe_str hv hs) fun D σ H ⟨ρ, G, fr, h⟩ => ⟨ρ, G, fr, ?_⟩
  unfold sPutM at h
  cases e1 : fv ρ with
  | bad => rw [e1] at h; exact h
  | ex c p ρ' => rw [e1] at h; exact fun cls dd H' G' x f' r' => h cls dd σ H' G' x (f'.weak wx) (r'.sub fun b z => z.weak wx)
  | ok d ρ1 =>
    rw [e1] at h
    intro y H1 G1 F1 f1 r1 s1 ok1 n1
    obtain ⟨v, d0, q1, q2, _, a, b, c', cs, gs, k, xs, rfl, eG, hne, rfl, h1, h2, h3, h4⟩ := f1.ok i _ hk
    obtain ⟨b2, ys, es, rfl, rfl, rfl, g1, g2⟩ := ok1
    have nb := n1 b2 (by simp)
    have hab : a ≠ b2 := fun z => nb.2 ⟨i, _, _, hk, by rw [eG, ← z]; simp⟩
    dsimp only at h
    unfold putM at h
    rw [q2] at h
    have kp : Kp H1 (upd H1 a (.dK [(.inr "cells", c'), (.inr "great", .ref b2), (.inr "spot", .int k)])) := kp_upd h1 rfl
    have hm : a ∈ G1 i := by rw [eG]; simp
    have ne : ∀ b' u, b' ≠ a → H1 b' = some u → (upd H1 a (.dK [(.inr "cells", c'), (.inr "great", .ref b2), (.inr "spot", .int k)])) b' = some u := fun b' u hb e => by rw [upd_ne hb]; exact e
    refine ⟨_, q1, a, _, rfl, .inl ⟨_, .inr "great", h1, rfl, by show 3 < sizeLine; decide, rfl⟩, ?_⟩
    -- the frame
    have fin : FR X.K κ (ρ1.set i (.tuple ([.list cs, .list gs, .int k].set 1 (.list es)))) σ (upd H1 a (.dK [(.inr "cells", c'), (.inr "great", .ref b2), (.inr "spot", .int k)])) (fun j => if j = i then [a, b2] else G1 j) := by
      refine ⟨f1.l1, by rw [List.length_set]; exact f1.l2, fun j s e => ?_, fun j j' o o1 o' o1' e e' b' hb hb' => ?_⟩
      · by_cases hj : j = i
        · subst hj
          rw [hk] at e; cases e
          obtain ⟨v0, d0, e1, e2, h0, _⟩ := f1.ok j _ hk
          rw [q1] at e1; cases e1
          refine ⟨.ref a, _, q1, by rw [List.getElem?_set_self]; exact (List.getElem?_eq_some_iff.mp e2).1, h0, ?_⟩
          rw [if_pos rfl]
          refine ⟨a, b2, c', cs, es, k, ys, rfl, rfl, hab, rfl, upd_same, Rp.kp kp _ _ h2, ?_, RpAll.kp kp _ _ g2⟩
          rw [upd_ne (Ne.symm hab)]; exact g1
        · rw [List.getElem?_set_ne (Ne.symm hj), if_neg hj]
          have q := f1.ok j s e
          cases s with
          | no => trivial
          | sh =>
            obtain ⟨v, d, e1, e2, h1⟩ := q
            exact ⟨v, d, e1, e2, Rp.kp kp _ _ h1⟩
          | ow c2 o2 =>
            obtain ⟨v, d, e1, e2, h0, h1⟩ := q
            refine ⟨v, d, e1, e2, h0, o2.frame h1 (fun b' hb => ?_) kp⟩
            exact upd_ne fun z => hj (f1.dj j i _ _ _ _ e hk b' hb (by rw [eG, z]; simp))
      · have ap : ∀ {j : Nat} {o : V → Prop} {o1 : OP}, κ[j]? = some (.ow o o1) → j ≠ i → b' ∈ G1 j → b' ∈ [a, b2] → False := fun {j o o1} e hj hb hb' => by
          have : b' = a ∨ b' = b2 := by simpa using hb'
          rcases this with z | z
          · exact hj (f1.dj j i _ _ _ _ e hk b' hb (by rw [eG, z]; simp))
          · exact nb.2 ⟨j, _, _, e, z ▸ hb⟩
        by_cases hj : j = i
        · by_cases hj' : j' = i
          · rw [hj, hj']
          · rw [if_pos hj] at hb
            rw [if_neg hj'] at hb'
            exact (ap e' hj' hb' hb).elim
        · rw [if_neg hj] at hb
          by_cases hj' : j' = i
          · rw [if_pos hj'] at hb'
            exact (ap e hj hb hb').elim
          · rw [if_neg hj'] at hb'
            exact f1.dj j j' _ _ _ _ e e' b' hb hb'
    refine h σ _ _ fin ⟨fun b' u hb n => ?_, fun b' z => ?_, fun b' z => r1.non b' (upd_none z)⟩
    · by_cases hz : b' = a
      · have o1 : Own κ G1 a := ⟨i, _, _, hk, hm⟩
        rcases r1.new a o1 with q | q
        · exact absurd (hz ▸ q) n
        · rw [hz, q] at hb; cases hb
      · exact ne b' u hz (r1.keep b' u hb n)
    · obtain ⟨j, o, o1, e, hb⟩ := z
      dsimp only at hb
      by_cases hj : j = i
      · rw [if_pos hj] at hb
        have : b' = a ∨ b' = b2 := by simpa using hb
        rcases this with z | z
        · rw [z]; exact r1.new a ⟨i, _, _, hk, hm⟩
        · rw [z]; exact nb.1
      · rw [if_neg hj] at hb
        exact r1.new b' ⟨j, _, _, e, hb⟩
/-- m['great'][0] = a whole number -/
def sPutG0 (i : Nat) (n0 : Int) (fv : M PyData) : MS := fun ρ => match fv ρ with
  | .ok d ρ1 => (match ρ1[i]? with
    | some (.tuple [.list cs, .list gs, .int k]) => (match ixN gs.length n0 with
      | some j => .nx (ρ1.set i (.tuple [.list cs, .list (gs.set j d), .int k]))
      | none => .bad)
    | _ => .bad)
  | .ex c p ρ' => .ex c p ρ'
  | .bad => .bad
theorem qs_mG0 {j jj} {p3 p4 : Pos} {n0 : Int} (i : Nat) (hu : X.A.units + 64 < cLine) (hk : κ[i]? = some (.ow c (oM X.K))) (hp : PE X (.Name x p) (tVar i)) (hv : QE X κ J.W pv .sh e fv) (wx : Wk κ J.κx)
    (hs : swapsWithSole [.Subscript (.Subscript (.Name x p) (.Constant (.str "great") j q2) p3) (.Constant (.int n0) jj p4) tpos] e pos.line X.env = pure false := by rfl) (hw : swappedStores [.Subscript (.Subscript (.Name x p) (.Constant (.str "great") j q2) p3) (.Constant (.int n0) jj p4) tpos] e X.env = pure none := by rfl)
    (h1 : (assignEach [.Subscript (.Subscript (.Name x p) (.Constant (.str "great") j q2) p3) (.Constant (.int n0) jj p4) tpos] X.env).map (·.2) = [assign (.Subscript (.Subscript (.Name x p) (.Constant (.str "great") j q2) p3) (.Constant (.int n0) jj p4) tpos) X.env] := by rfl)
    (ha : ∀ v, assign (.Subscript (.Subscript (.Name x p) (.Constant (.str "great") j q2) p3) (.Constant (.int n0) jj p4) tpos) X.env v = (do
      let ov ← holding [v] (eval (.Subscript (.Name x p) (.Constant (.str "great") j q2) p3) X.env)
      let iv ← holding [v, ov] (eval (.Constant (.int n0) jj p4) X.env)
      standAt tpos
      holding [v, ov, iv] (setItem ov iv v)
      release [v, ov, iv] []) := by intro _; rfl) :
    QS X J κ κ (.Assign [.Subscript (.Subscript (.Name x p) (.Constant (.str "great") j q2) p3) (.Constant (.int n0) jj p4) tpos] e pos) (sPutG0 i n0 fv) := by
  refine PS.imp (ps_asg hv (pg_sub (pe_dget (by omega) hp pe_str (fun _ _ => rfl)) pe_int set_list ha) hs hw h1) fun D σ H ⟨ρ, G, fr, h⟩ => ⟨ρ, G, fr, ?_⟩
  unfold sPutG0 at h
  cases e1 : fv ρ with
  | bad => rw [e1] at h; exact h
  | ex c p ρ' => rw [e1] at h; exact fun cls dd H' G' x f' r' => h cls dd σ H' G' x (f'.weak wx) (r'.sub fun b z => z.weak wx)
  | ok d ρ1 =>
    rw [e1] at h
    intro y H1 G1 F1 f1 r1 s1 ok1 n1
    obtain ⟨v, d0, q1, q2, _, a, b, c', cs, gs, k, xs, rfl, eG, hne, rfl, h1, h2, h3, h4⟩ := f1.ok i _ hk
    dsimp only at h
    rw [q2] at h
    dsimp only at h
    cases e2 : ixN gs.length n0 with
    | none => rw [e2] at h; exact h.elim
    | some j =>
      rw [e2] at h
      have kp : Kp H1 (upd H1 b (.lst (xs.set j y))) := kp_upd h3 rfl
      have hm : b ∈ G1 i := by rw [eG]; simp
      have ne : ∀ b' u, b' ∉ G1 i → H1 b' = some u → (upd H1 b (.lst (xs.set j y))) b' = some u := fun b' u hb e => upd_other hm hb e
      refine ⟨_, q1, a, .ref b, rfl, .inl ⟨_, .inr "great", .inl h1, rfl, by rfl⟩, b, xs, n0, j, rfl, rfl, h3, by rw [h4.len]; exact e2, ?_⟩
      refine h σ _ G1 (f1.wr hk q1 ⟨a, b, c', cs, _, k, _, rfl, eG, hne, rfl, ?_, Rp.kp kp _ _ h2, upd_same, (RpAll.kp kp _ _ h4).set j (Rp.kp kp _ _ ok1.1)⟩ kp ne) (r1.trans (Rel.wr hk ne fun b z => upd_none z))
      rw [upd_ne hne]; exact h1
/-- return {'cells': e, 'great': an own slot, 'spot': 0} -/
def sRetM (i : Nat) (fv : M PyData) (n0 : Int) : MS := fun ρ => match fv ρ with
  | .ok d ρ1 => (match d, ρ1[i]? with
    | .list cs, some (.list gs) => .rt (.tuple [.list cs, .list gs, .int n0]) ρ1
    | _, _ => .bad)
  | .ex c p ρ' => .ex c p ρ'
  | .bad => .bad
theorem qs_retM {κn : List SK} {n0 : Int} {j1 j2 j3 j4} {p1 p2 p3 p4 p5 : Pos} (i : Nat) (hk : κ[i]? = some (.ow c (oLst X.K))) (hp : PE X (.Name x p) (tVar i)) (hv : QE X κ J.W pv .sh e fv) (hr : J.rk = .ow (oM X.K)) (wr : Wk κ J.κr) (hi : J.κr[i]? = some .no) (wx : Wk κ J.κx) :
    QS X J κ κn (.Return (some (.Dict [some (.Constant (.str "cells") j1 p1), some (.Constant (.str "great") j2 p2), some (.Constant (.str "spot") j3 p3)] [e, .Name x p, .Constant (.int n0) j4 p4] p5)) pos) (sRetM i fv n0) := by
  refine PS.imp (ps_ret (pe_disp (pps_cons pe_str hv (pps_cons pe_str hp (pps_cons pe_str pe_int pps_nil))) rfl rfl (by simp) (by simp))) fun D σ H ⟨ρ, G, fr, h⟩ => ?_
  intro a hna
  have sm : Same H (upd H a (.dK [])) := same_upd0 hna
  refine ⟨ρ, G, fr.same sm, ?_⟩
  unfold sRetM at h
  cases e1 : fv ρ with
  | bad => rw [e1] at h; exact h
  | ex c p ρ' => rw [e1] at h; exact fun cls dd H' G' x f' r' => h cls dd σ H' G' x (f'.weak wx) (((Rel.of_same sm).trans r').sub fun b z => z.weak wx)
  | ok d ρ1 =>
    rw [e1] at h
    intro y H1 G1 F1 f1 r1 s1 ok1 n1
    have nO : ∀ {G : Nat → List Addr} {H : Hp} {ρ : Ev}, FR X.K κ ρ σ H G → H a = none → ¬ Own κ G a := fun f q z => by
      obtain ⟨u, e, _⟩ := f.live z
      rw [q] at e; cases e
    have na : ¬ Own κ G a := nO fr hna
    have e1a : H1 a = some (.dK []) := r1.keep _ _ upd_same na
    have na1 : ¬ Own κ G1 a := fun z => by
      rcases r1.new _ z with q | q
      · exact na q
      · rw [upd_same] at q; cases q
    obtain ⟨v, d0, q1, q2, _, b, xs, gs, rfl, eG, rfl, g1, g2⟩ := f1.ok i _ hk
    have hab : a ≠ b := fun z => na1 ⟨i, _, _, hk, by rw [eG, z]; simp⟩
    dsimp only at h
    rw [q2] at h
    cases d with
    | list cs =>
      dsimp only at h
      refine ⟨_, q1, e1a, [(.inr "cells", y), (.inr "great", .ref b), (.inr "spot", .int n0)], rfl, by simp, ?_⟩
      have em : mergeK [] [((.inr "cells" : Key), y), (.inr "great", .ref b), (.inr "spot", .int n0)] = [(.inr "cells", y), (.inr "great", .ref b), (.inr "spot", .int n0)] := by rfl
      rw [em]
      have kp : Kp H1 (upd H1 a (.dK [(.inr "cells", y), (.inr "great", .ref b), (.inr "spot", .int n0)])) := kp_upd e1a rfl
      have r2 : Rel H (Own κ G) (upd H1 a (.dK [(.inr "cells", y), (.inr "great", .ref b), (.inr "spot", .int n0)])) (Own κ G1) := by
        have q := (Rel.of_same (S := Own κ G) sm).trans r1
        refine ⟨fun b u hb n => ?_, q.new, fun b z => q.non b (upd_none z)⟩
        rw [upd_ne]
        · exact q.keep b u hb n
        · intro z; rw [z, hna] at hb; cases hb
      have f2 := f1.updF (u := .dK [(.inr "cells", y), (.inr "great", .ref b), (.inr "spot", .int n0)]) na1 kp
      refine h (.ref a) σ _ G1 [a, b] (f2.weak wr) ⟨r2.keep, fun b' z => ?_, r2.non⟩ (by
        rw [hr]
        exact ⟨a, b, y, cs, gs, n0, xs, rfl, rfl, hab, rfl, upd_same, Rp.kp kp _ _ ok1.1, by rw [upd_ne (Ne.symm hab)]; exact g1, RpAll.kp kp _ _ g2⟩) fun b' hb z => ?_
      · rcases z with z | z
        · have : b' = a ∨ b' = b := by simpa using z
          rcases this with z | z
          · exact .inr (z ▸ hna)
          · exact r2.new b' ⟨i, _, _, hk, by rw [eG, z]; simp⟩
        · exact r2.new b' (z.weak wr)
      · have : b' = a ∨ b' = b := by simpa using hb
        rcases this with q | q
        · exact na1 (q ▸ z.weak wr)
        · obtain ⟨j, o, o1, ej, hj⟩ := z
          have ej2 : κ[j]? = some (.ow o o1) := (wr.at j _ ej).resolve_left fun z => nomatch z
          have := f1.dj i j _ _ _ _ hk ej2 b' (by rw [eG, q]; simp) hj
          subst this
          rw [hi] at ej; cases ej
    | _ => exact h.elim
end
end G

/-! G16: len({e for x in ..}) of whole numbers. -/
namespace G
open PySem PySem.Spec PyProof.Rows
open L2 hiding St Inv Binds
section
variable {X : Cx}
/-- {elt for target in iter if ..}, elt a whole number: D the new set -/
def tSci (wi : TI) (g : TG) (tt : TT) (te : TE) (vs : List Nat) : TE := fun σ H Q => wi σ H fun J H1 => ∀ D, H1 D = none → ∃ W : Nat → Nat → Hp → Prop, (∃ m, W 0 m (upd H1 D (.set (fun _ => false) 0))) ∧ ∀ i m H, W i m H →
  (J.stop i H ∧ Q (.ref D) H) ∨ (J.go i H ∧ ∃ Nx : Hp → Prop, (∀ H', Nx H' → ∃ m', m' < m ∧ W (i + 1) m' H') ∧ ∀ x H', J.yld i H x H' → g x (wipe σ vs) H' fun σ2 H2 => wipe σ2 vs = wipe σ vs ∧ tt σ2 H2 fun b H3 =>
    if b = true then te σ2 H3 fun y H4 => ∃ (c : Int) (S : Int → Bool) (n : Nat), y = .int c ∧ H4 D = some (.set S n) ∧ n + 1 < scanBound ∧ Nx (upd H4 D (.set (fun j => S j || decide (j = c)) (if S c = true then n else n + 1))) else Nx H3)
theorem sci_core {pins : List (Addr × Obj)} {s : Shared} {σ : St} {H : Hp} {Q : VK} {elt tg iter : Expr} {ifs : List Expr} {scope : Scope} {own : List (Str × Nat)} {pos pos' : Pos} {wi : TI} {g : TG} {tt : TT} {te : TE} {use : Option (Value → Sem Unit)} {Qf : Value → Shared → Prop}
    (hc : X.calm = true) (hN : X.N.Nodup) (I : Inv X pins σ H s) (hi : PI X tg iter wi) (ok : BlkOk X.N X.env.scope scope own)
    (hg : ∀ (s : Shared) (H : Hp) (C : Addr) (cl : List (Str × Addr)) (fp : List Addr), PG (X.blk s H scope (compEnvC scope cl C X.env) fp) tg g) (ht : ∀ (s : Shared) (H : Hp) (C : Addr) (cl : List (Str × Addr)) (fp : List Addr), PTs (X.blk s H scope (compEnvC scope cl C X.env) fp) ifs tt)
    (he : ∀ (s : Shared) (H : Hp) (C : Addr) (cl : List (Str × Addr)) (fp : List Addr), PE (X.blk s H scope (compEnvC scope cl C X.env) fp) elt te) (hs : ∀ x, foldedSetIterable iter X.env x = pure x)
    (h : tSci wi g tt te (own.map (·.2)) σ H Q)
    (hRR : ∀ D C s' m H', Inv X pins σ H' s' → Q (.ref D) H' → s'.heap.Ns C m → FpOk X pins H' C → compPost (model X.prog X.w) X.A X.xe use Qf (.ref D) C (.ok .next) s') :
    wpAny (model X.prog X.w) X.A (comprehension (.SetComp elt [⟨tg, iter, ifs, 0⟩] scope pos) scope X.env pos' (newSet (.type "set")) false (eval iter X.env) use) Qf X.xe s := by
  have hfree : ∀ y ∈ scope.names, y.2 = .free → ∃ c, X.env.cells.lookup y.1 = some c := fun y hy e => by
    rcases ok.free y hy e with k | k
    · exact I.ok.has _ (.inl k)
    · exact I.ok.has _ (.inr k)
  refine wpAny_comprehension_free (use := use) rfl hs (closure_ok hfree) ok.kind (fun y hy e => by rw [ok.uniq y hy, e])
    (thn (hi.run pins s σ H _ I h) fun xv s1 hx => thn hx fun itv s2 h2 => ?_)
  obtain ⟨it, fp, tn, J, H2, e, I2, T, st2, f2, q⟩ := h2
  subst e
  refine PpSet.newSet_ok (newEnv_comp ?_)
  generalize hD : s2.heap.objs.size = D
  have hDn : H2 D = none := I2.hok.fresh (Nat.le_of_eq hD)
  obtain ⟨W, ⟨m0, w0⟩, turn⟩ := q D hDn
  -- the new list
  generalize hs3 : ({ s2 with heap := s2.heap.push { cls := .type "set", dict := none, data := .set #[] 0 (.fresh 0 0 (!X.w.params.followText "set-order")) } } : Shared) = s3
  have I3 : Inv X pins σ (upd H2 D (.set (fun _ => false) 0)) s3 := by
    rw [← hs3]
    refine I2.laid (t' := s2.toks) (fun b o e => Heap.get?_push_of_some _ e) (Nat.le_of_eq hD) ?_
    rw [← hD]
    exact ((intSetOf_fresh (!X.w.params.followText "set-order")).kind X.prog X.w).setOf (Heap.get?_push_size _ rfl) (by decide)
  have h3 : s3.heap = s2.heap.push { cls := .type "set", dict := none, data := .set #[] 0 (.fresh 0 0 (!X.w.params.followText "set-order")) } := by rw [← hs3]
  have sz : ∀ b ∈ fp, b < s2.heap.objs.size := fun b hb => by
    obtain ⟨o, e, _⟩ := T.obj _ _ st2 b hb
    exact Heap.lt_size e
  have f3 : ∀ b ∈ fp, FpOk X pins (upd H2 D (.set (fun _ => false) 0)) b ∧ b < s3.heap.objs.size := fun b hb => by
    have hlt := sz b hb
    refine ⟨⟨?_, (f2 b hb).2⟩, by rw [h3, Heap.size_push]; exact Nat.lt_succ_of_lt hlt⟩
    rw [upd_ne (by rw [← hD]; exact Nat.ne_of_lt hlt)]
    exact (f2 b hb).1
  have st3 : tn 0 s3.heap := T.keep _ _ _ st2 fun b _ o e => by rw [h3]; exact Heap.get?_push_of_some _ e
  have I4 := block_start I3 ok hN f3
  have pg := hg s3 (upd H2 D (.set (fun _ => false) 0)) s3.heap.objs.size (cellsFrom (s3.heap.objs.size + 1) scope.names (cloFrom X.env.cells scope.names [])) fp
  have pt := ht s3 (upd H2 D (.set (fun _ => false) 0)) s3.heap.objs.size (cellsFrom (s3.heap.objs.size + 1) scope.names (cloFrom X.env.cells scope.names [])) fp
  have pe := he s3 (upd H2 D (.set (fun _ => false) 0)) s3.heap.objs.size (cellsFrom (s3.heap.objs.size + 1) scope.names (cloFrom X.env.cells scope.names [])) fp
  show codeAny _ _ (.compStart (.SetComp elt [⟨tg, iter, ifs, 0⟩] scope pos) 0 (.ref it) (.ref D) (compEnvC scope (cellsFrom (s3.heap.objs.size + 1) scope.names (cloFrom X.env.cells scope.names [])) s3.heap.objs.size X.env)) (compPost (model X.prog X.w) X.A X.xe use Qf (.ref D) s3.heap.objs.size) { s3 with heap := pushCells (s3.heap.push { cls := .type "dict", data := .dict #[] }) scope.names }
  have nfp : ∀ b ∈ fp, (upd H2 D (.set (fun _ => false) 0)) b = none := fun b hb => (f3 b hb).1.1
  generalize hce : compEnvC scope (cellsFrom (s3.heap.objs.size + 1) scope.names (cloFrom X.env.cells scope.names [])) s3.heap.objs.size X.env = ce at I4 pg pt pe ⊢
  have cL : ce.locals = s3.heap.objs.size := by subst hce; rfl
  generalize hH3 : upd H2 D (.set (fun _ => false) 0) = H3 at I3 I4 pg pt pe w0 nfp f3
  generalize hs4 : ({ s3 with heap := pushCells (s3.heap.push { cls := .type "dict", data := .dict #[] }) scope.names } : Shared) = s4 at I4 ⊢
  have st4 : tn 0 s4.heap := T.keep _ _ _ st3 fun b _ o e => by rw [← hs4]; exact pushCells_keeps _ _ _ _ (Heap.get?_push_of_some _ e)
  have stat : ∀ {σ' : St} {H' : Hp} {s' : Shared}, Inv (X.blk s3 H3 scope ce fp) [] σ' H' s' → (∀ b ∈ fp, H' b = none) → ∀ b ∈ fp, FpOk (X.blk s3 H3 scope ce fp) [] H' b := fun {σ' H' s'} I' hn b hb =>
    ⟨hn b hb, (I'.ok.exf b hb).1, I'.ok.exfs b hb, .inl hb, fun x c e => (I'.ok.exf b hb).2 x c e, fun p hp => absurd (show p ∈ ([] : List (Addr × Obj)) ++ [] from hp) (by simp)⟩
  have loop : codeAny (model X.prog X.w) X.A (.compLoop (.SetComp elt [⟨tg, iter, ifs, 0⟩] scope pos) 0 (.ref it) (.ref D) ce) (compPost (model X.prog X.w) X.A X.xe use Qf (.ref D) s3.heap.objs.size) s4 := by
    refine PpSet.compLoopS_any (fun n s' => ∃ i H', Inv (X.blk s3 H3 scope ce fp) [] (wipe σ (own.map (·.2))) H' s' ∧ tn i s'.heap ∧ (∀ b ∈ fp, H' b = none) ∧ W i n H') ?_ m0 ⟨0, H3, I4, st4, nfp, w0⟩
    rintro n s5 ⟨i, H5, I5, st5, n5, w5⟩
    rcases turn i n H5 w5 with ⟨stop, qq⟩ | ⟨go, Nx, hNx, step⟩
    · have td := T.done (X.blk s3 H3 scope ce fp) rfl rfl rfl hc i [] s5 _ H5 (fun _ _ => False) I5 (stat I5 n5) st5 stop
      refine thnF td fun r s6 ⟨hr, I6⟩ => ?_
      subst hr
      -- back in the def's context
      have I7 : Inv X pins σ H5 s6 := I3.call' (ch := fp) I6.os I6.base I6.hok I6.bare fun b hb => ⟨(f3 b hb).1.2.2.2.1, (f3 b hb).1.2.1, (f3 b hb).1.2.2.2.2.1, (f3 b hb).1.2.2.2.2.2⟩
      have nC : H5 s3.heap.objs.size = none := by
        have z : H5 ce.locals = none := I6.free
        rw [cL] at z
        exact z
      obtain ⟨m, hn, _⟩ := I6.loc
      have hn : s6.heap.Ns ce.locals m := hn
      rw [cL] at hn
      exact hRR D s3.heap.objs.size s6 m H5 I7 qq hn (I3.fpOk (Nat.le_refl _) nC)
    · have ti := T.item (X.blk s3 H3 scope ce fp) rfl rfl rfl hc i [] s5 _ H5 (fun _ _ => False) I5 (stat I5 n5) st5 go
      refine thnF ti fun r s6 ⟨u, hr, h6⟩ => ?_
      subst hr
      refine thnF h6 fun _ s7 ⟨x, H7, I7, r7, y7, st7, n7⟩ => ?_
      have I7' := I7.pinned (stat I7 n7) (T.obj _ _ st7)
      refine thnF (pg.run _ s7 _ H7 x u _ I7' r7 (step x H7 y7)) fun _ s8 ⟨σ8, H8, I8, hw8, q8⟩ => ?_
      refine thnF (pt.run _ s8 σ8 H8 _ I8 q8) fun b s9 ⟨H9, I9, q9⟩ => ?_
      -- the turn's end
      have fin : ∀ {s' : Shared} {H' : Hp}, Inv (X.blk s3 H3 scope ce fp) ([] ++ pinsAt fp s7.heap) σ8 H' s' → Nx H' → ∃ m, m < n ∧ ∃ i H', Inv (X.blk s3 H3 scope ce fp) [] (wipe σ (own.map (·.2))) H' s' ∧ tn i s'.heap ∧ (∀ b ∈ fp, H' b = none) ∧ W i m H' := fun {s' H'} I' nx => by
        obtain ⟨m', hm, w'⟩ := hNx H' nx
        have pin' : ∀ b ∈ fp, ∀ o, s7.heap.get? b = some o → s'.heap.get? b = some o ∧ H' b = none := fun b hb o e =>
          let z := I'.pin (b, o) (List.mem_append_right _ (List.mem_append_right _ (mem_pinsAt hb e)))
          ⟨z.1, z.2.1⟩
        have hl : (wipe σ (own.map (·.2))).length = σ8.length := by rw [← hw8, wipe_length]
        refine ⟨m', hm, i + 1, H', (I'.unpinned (pins := [])).weak hl (fun j v e => ?_), T.keep _ _ _ st7 fun b hb o e => (pin' b hb o e).1, fun b hb => ?_, w'⟩
        · rw [← hw8] at e
          exact (wipe_some e).1
        · obtain ⟨o, e, _⟩ := T.obj _ _ st7 b hb
          exact (pin' b hb o e).2
      cases b with
      | false =>
        simp only [Bool.false_eq_true, if_false] at q9 ⊢
        exact fin I9 q9
      | true =>
        simp only [if_true] at q9 ⊢
        refine thnF (pe.run _ s9 σ8 H9 _ I9 q9) fun z s10 ⟨yv, H10, I10, r10, cb, S0, n0, ey, hD10, hz10, nx⟩ => ?_
        subst ey
        obtain ⟨tk, rfl⟩ := r10
        have R : s10.heap.SetOf (intKind X.prog X.w) D S0 n0 := I10.hok D _ hD10
        refine call_set_add (knd := intKind X.prog X.w) (intKind_is _ _ cb tk) rfl R hz10 fun h' sb new => ?_
        have he : ∃ u, h'.get? D = some u := by
          obtain ⟨o, _, _, _, ho, _⟩ := new
          exact ⟨o, ho⟩
        exact fin (I10.write (e := D) (o := .set (fun j => S0 j || decide (j = cb)) (if S0 cb = true then n0 else n0 + 1)) (t' := s10.toks + 1) (by rw [hD10]; trivial) (.inl rfl) (fun b u hb hu => (sb.2 b hb).trans hu) he new) nx
  exact PpSet.codeAny_compStart_set loop (T.self X.A 0 _ _ _ st4 loop)
theorem pe_sci {elt tg iter : Expr} {ifs : List Expr} {scope : Scope} {own : List (Str × Nat)} {pos : Pos} {wi : TI} {g : TG} {tt : TT} {te : TE} (hc : X.calm = true) (hN : X.N.Nodup) (hi : PI X tg iter wi) (ok : BlkOk X.N X.env.scope scope own)
    (hg : ∀ (s : Shared) (H : Hp) (C : Addr) (cl : List (Str × Addr)) (fp : List Addr), PG (X.blk s H scope (compEnvC scope cl C X.env) fp) tg g) (ht : ∀ (s : Shared) (H : Hp) (C : Addr) (cl : List (Str × Addr)) (fp : List Addr), PTs (X.blk s H scope (compEnvC scope cl C X.env) fp) ifs tt)
    (he : ∀ (s : Shared) (H : Hp) (C : Addr) (cl : List (Str × Addr)) (fp : List Addr), PE (X.blk s H scope (compEnvC scope cl C X.env) fp) elt te) (hs : ∀ x, foldedSetIterable iter X.env x = pure x := by intro _; rfl) :
    PE X (.SetComp elt [⟨tg, iter, ifs, 0⟩] scope pos) (tSci wi g tt te (own.map (·.2))) := by
  refine ⟨fun pins s σ H Q I h => ?_⟩
  rw [PpSet.eval_SetComp]
  refine sci_core hc hN I hi ok hg ht he hs h fun D C s' m H' I' q hn f => ⟨m, hn, fun h'' sb => ?_⟩
  obtain ⟨f0, f1, f2, f3, f4, f5⟩ := f
  exact ⟨.ref D, H', I'.turned (t' := s'.toks) (fun b o hb e => (sb.2 b hb).trans e) f0 f1 f3 f4 f5, rfl, q⟩
def rLenS : List V → Hp → VK → Prop := fun xs H Q => ∃ (a : Addr) (S : Int → Bool) (n : Nat), xs = [.ref a] ∧ H a = some (.set S n) ∧ n < 4096 ∧ Q (.int n) H
theorem call_lenS : CallR X (.builtin "len") rLenS := by
  intro pins s σ H xs us Q I r h
  obtain ⟨a, S, n, rfl, ha, hn, q⟩ := h
  obtain ⟨u, rfl, ru⟩ := vals1 r
  obtain rfl : u = Value.ref a := ru
  have R : s.heap.SetOf (intKind X.prog X.w) a S n := I.hok a _ ha
  obtain ⟨o, es, ep, t, ho, hex, hd, _, _, _, hf, hz⟩ := R
  exact call_len_set ho hex hd hf (by rw [hz]; omega) ⟨.int n, H, I.tok _, ⟨_, by rw [hz]⟩, q⟩
end
/-- how many there are, each once, beside those seen -/
def cntD : List Int → List Int → Nat
  | _, [] => 0
  | seen, x :: xs => (if x ∈ seen then 0 else 1) + cntD (x :: seen) xs
def allI : List PyData → Option (List Int)
  | [] => some []
  | .int i :: ds => (allI ds).map (i :: ·)
  | _ => none
def eLenSc (vs : List Nat) (fi : MI) (g : TD) (ft : M Bool) (fe : M PyData) : M PyData := fun ρ => match fi ρ with
  | .ok ds ρ1 => (match lcGo g ft fe ds ρ1 with
    | some (out, ρ2) => (match allI out with
      | some ns => if ns.length ≤ 4000 then .ok (.int (cntD [] ns : Nat)) (rst ρ1 vs ρ2) else .bad
      | none => .bad)
    | none => .bad)
  | .ex c p ρ' => .ex c p ρ'
  | .bad => .bad
theorem allI_cons {d : PyData} {ds : List PyData} {ns : List Int} (h : allI (d :: ds) = some ns) : ∃ i ms, d = .int i ∧ allI ds = some ms ∧ ns = i :: ms := by
  cases d with
  | int i =>
    unfold allI at h
    cases e : allI ds with
    | none => rw [e] at h; cases h
    | some ms => rw [e] at h; cases h; exact ⟨i, ms, rfl, rfl, rfl⟩
  | _ => cases h
section
variable {K : PySem.W.Frag} {mg : Str → Option Value} {κ κ1 : List SK} {W : WX} {pi pt pe : Bool} {vs : List Nat} {fi : MI} {g : TD} {ft : M Bool} {fe : M PyData}
theorem lenSc_ok (hK : NoOw κ vs) (hw : wipeK κ1 vs = wipeK κ vs) {σ : St} {H : Hp} {Q : VK} (h : tE K mg κ W (pi && (pt && pe)) .sh (eLenSc vs fi g ft fe) σ H Q) :
    tSci (tI K mg κ W pi fi) (tGd K vs (wipeK κ vs) κ1 g) (tT K mg κ1 WF pt ft) (tE K mg κ1 WF pe .sh fe) vs σ H fun x H1 => rLenS [x] H1 Q := by
  obtain ⟨ρ0, G0, f0, h⟩ := h
  refine ⟨ρ0, G0, f0, ?_⟩
  unfold eLenSc at h
  cases e0 : fi ρ0 with
  | bad => rw [e0] at h; exact h
  | ex c p ρ' => rw [e0] at h; exact h
  | ok ds ρ1 =>
    rw [e0] at h
    dsimp only at h
    intro It H1 G1 f1 r1 s1 w1 D hD
    -- what is wanted in the end, n members seen, the rest to come
    let Fin : List Int → Nat → Nat → Option (List PyData × Ev) → Prop := fun seen n l o => match o with
      | some (out, ρ2) => ∃ ns, allI out = some ns ∧ ns.length + l ≤ 4000 ∧ AftE K mg κ W (pi && (pt && pe)) .sh σ H G0 Q (.ok (.int ((n + cntD seen ns : Nat) : Int)) (rst ρ1 vs ρ2))
      | none => False
    have hF : Fin [] 0 0 (lcGo g ft fe ds ρ1) := by
      cases e1 : lcGo g ft fe ds ρ1 with
      | none => rw [e1] at h; exact h
      | some p =>
        obtain ⟨out, ρ2⟩ := p
        rw [e1] at h
        dsimp only at h
        cases e2 : allI out with
        | none => rw [e2] at h; exact h.elim
        | some ns =>
          rw [e2] at h
          dsimp only at h
          split at h
          · rename_i hl
            refine ⟨ns, e2, by omega, ?_⟩
            rw [Nat.zero_add]
            exact h
          · exact h.elim
    have nD : ∀ {G : Nat → List Addr}, ¬ Own κ G1 D := fun {G} z => by
      obtain ⟨u, e, _⟩ := f1.live z
      rw [hD] at e; cases e
    have sm1 : Same H1 (upd H1 D (.set (fun _ => false) 0)) := same_upd0 hD
    refine ⟨fun i m H' => ∃ ρ G S n l seen, FR K (wipeK κ vs) ρ (wipe σ vs) H' G ∧ Rel H1 (Own κ G1) H' (Own (wipeK κ vs) G) ∧ ((pt && pe) = true → Same H1 H') ∧ Kp H1 H' ∧ H' D = some (.set S n) ∧ (∀ k, S k = decide (k ∈ seen)) ∧ n ≤ l ∧ ¬ Own (wipeK κ vs) G D ∧ i ≤ ds.length ∧ m = ds.length - i ∧
      Fin seen n l (lcGo g ft fe (ds.drop i) ρ), ⟨_, ρ1, G1, _, 0, 0, [], (f1.same sm1).wiped vs, (Rel.of_same sm1).sub fun b z => z.unwipe, fun _ => sm1, .of_same sm1, upd_same, fun k => by simp, Nat.le_refl _, fun z => nD (G := G1) z.unwipe, Nat.zero_le _, rfl, ?_⟩, ?_⟩
    · rw [List.drop_zero]; exact hF
    rintro i m H2 ⟨ρ, G, S, n, l, seen, fr, rr, sm, kp, hDa, hS, hnl, nO, hi, rfl, h⟩
    by_cases hl : ds.length ≤ i
    · refine .inl ⟨w1.stop H2 i kp hl, ?_⟩
      have e : i = ds.length := by omega
      rw [e, List.drop_length] at h
      obtain ⟨ns, e1, e2, h⟩ := h
      cases e1
      refine ⟨D, S, n, rfl, hDa, by rw [List.length_nil] at e2; omega, ?_⟩
      refine h (.int n) H2 G [] (f1.unwiped hK kp fr) (r1.trans (rr.sub fun b z => z.wiped hK)) (fun hp => ?_) ⟨.int _, rfl⟩ fun b hb => nomatch hb
      rw [Bool.and_eq_true] at hp
      exact (s1 hp.1).trans (sm hp.2)
    · have hl : i < ds.length := Nat.lt_of_not_le hl
      obtain ⟨d, hd⟩ : ∃ d, ds[i]? = some d := ⟨ds[i], by simp [hl]⟩
      have ed : ds.drop i = d :: ds.drop (i + 1) := by
        rw [List.drop_eq_getElem_cons hl]
        have := (List.getElem?_eq_some_iff.mp hd).2
        rw [this]
      rw [ed] at h
      unfold lcGo at h
      refine .inr ⟨w1.go H2 i d kp hd, fun H' => ∃ ρ G S n l seen, FR K (wipeK κ vs) ρ (wipe σ vs) H' G ∧ Rel H1 (Own κ G1) H' (Own (wipeK κ vs) G) ∧ ((pt && pe) = true → Same H1 H') ∧ Kp H1 H' ∧ H' D = some (.set S n) ∧ (∀ k, S k = decide (k ∈ seen)) ∧ n ≤ l ∧ ¬ Own (wipeK κ vs) G D ∧
        Fin seen n l (lcGo g ft fe (ds.drop (i + 1)) ρ), fun H' ⟨ρ', G', S', n', l', seen', a1, a2, a3, a4, a5, a6, a7, a8, a9⟩ => ⟨ds.length - (i + 1), by omega, ρ', G', S', n', l', seen', a1, a2, a3, a4, a5, a6, a7, a8, hl, rfl, a9⟩, fun x H3 y => ?_⟩
      obtain ⟨sm3, rp⟩ := w1.yld H2 i d x H3 kp hd y
      refine ⟨ρ, G, d, fr.same sm3, rp, ?_⟩
      cases eg : g d ρ with
      | none => rw [eg] at h; exact h.elim
      | some ρ2 =>
        rw [eg] at h
        dsimp only at h
        intro σ4 G4 f4 o4 u4
        have hlen : σ4.length = σ.length := by
          have q1 := f4.l1
          have q2 := congrArg List.length hw
          rw [wipeK_len, wipeK_len] at q2
          rw [← q1, q2]
          exact f1.l1
        have hws : wipe σ4 vs = wipe σ vs := wipe_same hlen u4
        refine ⟨hws, ρ2, G4, f4, ?_⟩
        have r4 : Rel H1 (Own κ G1) H3 (Own κ1 G4) := (rr.trans (.of_same sm3)).sub o4
        have nO4 : ¬ Own κ1 G4 D := fun z => nO (o4 _ z)
        have hD3 : H3 D = some (.set S n) := sm3 _ _ hDa
        cases et : ft ρ2 with
        | bad => rw [et] at h; exact h.elim
        | ex c p ρ' => rw [et] at h; exact h.elim
        | ok b ρ5 =>
          rw [et] at h
          dsimp only at h
          intro H5 G5 f5 r5 s5
          have r15 := r4.trans r5
          have hD5 : H5 D = some (.set S n) := r5.keep _ _ hD3 nO4
          have nO5 : ¬ Own κ1 G5 D := fun z => (r5.new _ z).elim nO4 fun q => by rw [hD3] at q; cases q
          have kp5 : Kp H1 H5 := (kp.trans (.of_same sm3)).trans (f4.kp r5)
          cases b with
          | false =>
            rw [if_neg Bool.false_ne_true] at h ⊢
            refine ⟨ρ5, G5, S, n, l, seen, ?_, r15.sub fun b z => ?_, fun hp => ?_, kp5, hD5, hS, hnl, fun z => ?_, h⟩
            · rw [← hw, ← hws]; exact f5.wiped vs
            · rw [← hw] at z; exact z.unwipe
            · exact ((sm hp).trans sm3).trans (s5 (Bool.and_eq_true_iff.mp hp).1)
            · rw [← hw] at z; exact nO5 z.unwipe
          | true =>
            rw [if_pos rfl] at h ⊢
            refine ⟨ρ5, G5, f5, ?_⟩
            cases ee : fe ρ5 with
            | bad => rw [ee] at h; exact h.elim
            | ex c p ρ' => rw [ee] at h; exact h.elim
            | ok dy ρ6 =>
              rw [ee] at h
              dsimp only at h
              intro y H6 G6 F6 f6 r6 s6 ok6 n6
              have r16 := r15.trans r6
              have hD6 : H6 D = some (.set S n) := r6.keep _ _ hD5 nO5
              have nO6 : ¬ Own κ1 G6 D := fun z => (r6.new _ z).elim nO5 fun q => by rw [hD5] at q; cases q
              have kp6 : Kp H1 H6 := kp5.trans (f5.kp r6)
              cases el : lcGo g ft fe (ds.drop (i + 1)) ρ6 with
              | none => rw [el] at h; exact h.elim
              | some p =>
                obtain ⟨ys, ρ7⟩ := p
                rw [el] at h
                dsimp only at h
                obtain ⟨ns, e1, e2, h⟩ := h
                obtain ⟨c, ms, rfl, e3, rfl⟩ := allI_cons e1
                obtain rfl : y = V.int c := ok6.pks.int
                rw [List.length_cons] at e2
                have kpu : Kp H6 (upd H6 D (.set (fun j => S j || decide (j = c)) (if S c = true then n else n + 1))) := kp_upd hD6 rfl
                refine ⟨c, S, n, rfl, hD6, by unfold scanBound; omega, ρ6, G6, _, _, l + 1, c :: seen, ?_, ⟨fun b u hb nb => ?_, fun b z => ?_, fun b z => r16.non b (upd_none z)⟩, fun hp => ?_, kp6.trans kpu, upd_same, fun k => ?_, ?_, fun z => ?_, ?_⟩
                · rw [← hw, ← hws]; exact (f6.updF nO6 kpu).wiped vs
                · rw [upd_ne]
                  · exact r16.keep b u hb nb
                  · intro z; rw [z, hD] at hb; cases hb
                · rw [← hw] at z; exact r16.new b z.unwipe
                · rw [Bool.and_eq_true] at hp
                  have q : Same H1 H6 := (((sm (by rw [hp.1, hp.2]; rfl)).trans sm3).trans (s5 hp.1)).trans (s6 hp.2)
                  intro b u hb
                  rw [upd_ne]
                  · exact q b u hb
                  · intro z; rw [z, hD] at hb; cases hb
                · rw [hS, Bool.eq_iff_iff]
                  simp [List.mem_cons, or_comm]
                · split <;> omega
                · rw [← hw] at z; exact nO6 z.unwipe
                · rw [el]
                  refine ⟨ms, e3, by omega, ?_⟩
                  have ez : (if S c = true then n else n + 1) + cntD (c :: seen) ms = n + cntD seen (c :: ms) := by
                    rw [cntD, hS]
                    by_cases hm : c ∈ seen
                    · simp [hm]
                    · simp [hm]; omega
                  rw [ez]
                  exact h
end
section
variable {X : Cx} {κ κ1 : List SK} {W : WX} {pi pt pe : Bool} {elt tg iter : Expr} {ifs : List Expr} {scope : Scope} {own : List (Str × Nat)} {p pos pos' : Pos} {fi : MI} {g : TD} {ft : M Bool} {fe : M PyData}
theorem qe_lenSc (hc : X.calm = true) (hN : X.N.Nodup) (hg0 : Gl X "len") (hm0 : X.mg "len" = none) (hi : QI X κ W pi tg iter fi) (ok : BlkOk X.N X.env.scope scope own) (hK : NoOw κ (own.map (·.2))) (hw : wipeK κ1 (own.map (·.2)) = wipeK κ (own.map (·.2)))
    (hg : ∀ (s : Shared) (H : Hp) (C : Addr) (cl : List (Str × Addr)) (fp : List Addr), QG (X.blk s H scope (compEnvC scope cl C X.env) fp) (own.map (·.2)) (wipeK κ (own.map (·.2))) κ1 tg g)
    (ht : ∀ (s : Shared) (H : Hp) (C : Addr) (cl : List (Str × Addr)) (fp : List Addr), QTs (X.blk s H scope (compEnvC scope cl C X.env) fp) κ1 WF pt ifs ft)
    (he : ∀ (s : Shared) (H : Hp) (C : Addr) (cl : List (Str × Addr)) (fp : List Addr), QE (X.blk s H scope (compEnvC scope cl C X.env) fp) κ1 WF pe .sh elt fe) (hs : ∀ x, foldedSetIterable iter X.env x = pure x := by intro _; rfl)
    (hst : starEach [.SetComp elt [⟨tg, iter, ifs, 0⟩] scope pos] X.env = (false, eval (.SetComp elt [⟨tg, iter, ifs, 0⟩] scope pos) X.env) :: starEach [] X.env := by rfl) :
    QE X κ W (pi && (pt && pe)) .sh (.Call (.Name "len" p) [.SetComp elt [⟨tg, iter, ifs, 0⟩] scope pos] [] pos') (eLenSc (own.map (·.2)) fi g ft fe) :=
  PE.imp (pe_callB call_lenS hg0 hm0 boot_len (pa_cons (pe_sci (g := tGd X.K (List.map (fun q => q.2) own) (wipeK κ (List.map (fun q => q.2) own)) κ1 g) (tt := tT X.K X.mg κ1 WF pt ft) (te := tE X.K X.mg κ1 WF pe .sh fe) hc hN hi ok hg ht he hs) pa_nil hst)) fun σ H Q h => by
    have z := lenSc_ok hK hw h
    exact z
end
end G

/-! G17: glue: defs by names, a law's end. -/
namespace G
open PySem PySem.Spec PyProof.Rows
open L2 hiding St Inv Binds
theorem law_callG {P : Program} {w : World} {K : PySem.W.Frag} {mg mb : Str → Option Value} {CX : CXT} {k : Nat} {fa a : Addr} {fd : FuncData} {x : Str} {sp : Sp} {s₁ : Shared} {vs : List Value} {ns : List Int}
    (KX : K.In s₁.heap) (hns : s₁.heap.Ns mainGlobals mg) (hb : s₁.heap.Ns builtinsNs mb) (hbb : ∀ x : Str, x ≠ "__name__" → mb x = bootBuiltins x) (hlim : s₁.heap.NoLimit) (hg : s₁.gens = #[])
    (ha : s₁.heap.get? a = some { cls := .type "list", data := .seq vs.toArray }) (hi : IntsAre vs ns) (hl : ns.length ≤ sizeLine) (hr : Room k callerA)
    (F : ∀ base : Heap, K.In base → base.Ns mainGlobals mg → FnG P w K mg base CX k fa fd [x] sp) (hbind : ∀ (s : Shared) (u : Value), BindsTo s fd ⟨[u], []⟩ [(x, u)])
    (hsp : ∀ H : Hp, Only H → SqL K H a (ns.map V.int) → sp [.ref a] H (fun v _ => v = .bl true) fun _ _ _ => False)
    (hCX : ∀ H e s', CX [] H s₁ (fun _ _ _ => False) e s' → False) :
    codeAny (model P w) callerA (.call (.ref fa) ⟨[.ref a], []⟩) (fun r s' => r = .ok (.ret (.bool true)) ∧ OldK s₁.heap s'.heap ∧ s'.os = s₁.os ∧ AllBare s'.gens) s₁ := by
  have rv := vals_ints hi
  have lenV := hi.length
  -- from an abstract heap in which nothing but the script may be tracked
  have core : ∀ H : Hp, Only H → SqL K H a (ns.map V.int) → HOk P w H s₁.heap → (∀ b, H b ≠ none → b = a) → (H a ≠ none → K.lookup a = none) →
      codeAny (model P w) callerA (.call (.ref fa) ⟨[.ref a], []⟩) (fun r s' => r = .ok (.ret (.bool true)) ∧ OldK s₁.heap s'.heap ∧ s'.os = s₁.os ∧ AllBare s'.gens) s₁ := by
    intro H hO hS hok hA hK
    have base_of : ∀ {b : Addr} {o : Obj}, s₁.heap.get? b = some o → H b = none → (hidT s₁.heap H).get? b = some o := fun e n => hidT_get e n
    have noA : ∀ {b : Addr} {o : Obj} {es : Array DictEntry} {ep : Nat}, s₁.heap.get? b = some o → o.data = .dict es ep → H b = none := fun {b o es ep} e d => by
      cases q : H b with
      | none => rfl
      | some u =>
        have e' : b = a := hA b (by rw [q]; simp)
        subst e'
        rw [ha] at e; cases e
        have d' : Data.seq vs.toArray _ = Data.dict es ep := d
        cases d'
    have nsK : ∀ {b : Addr} {m : Str → Option Value}, s₁.heap.Ns b m → (hidT s₁.heap H).Ns b m := fun {b m} ⟨o, es, ep, e, d, r⟩ => ⟨o, es, ep, base_of e (noA e d), d, r⟩
    have hKb : K.In (hidT s₁.heap H) := fun b o e => base_of (KX b o e) (by
      cases q : H b with
      | none => rfl
      | some u =>
        have e' : b = a := hA b (by rw [q]; simp)
        subst e'
        rw [hK (by rw [q]; simp)] at e; cases e)
    have hM : Mod K mg (hidT s₁.heap H) := ⟨hKb, nsK hns, ⟨mb, nsK hb, hbb⟩, let ⟨mc, h1, h2⟩ := hlim; ⟨mc, nsK h1, h2⟩⟩
    have e0 : Env0 P w K mg (hidT s₁.heap H) callerA [] s₁ H := ⟨rfl, hM, fun b o e => of_hidT e, Nat.le_of_eq (hidT_size _ _), trivial, fun b hb => absurd (show b ∈ ([] : List Addr) from hb) (by simp), hok, .of_eq hg⟩
    refine codeAny_mono ((F _ hKb (nsK hns)).run callerA [] s₁ H ⟨[.ref a], []⟩ [.ref a] [.ref a] _ _ rfl hr e0 (hbind s₁ (.ref a)) (.cons rfl .nil) (hsp H hO hS)) fun r s' h => ?_
    cases r with
    | error e => exact (hCX H e s' h).elim
    | ok fl =>
      cases fl with
      | next => exact False.elim h
      | brk => exact False.elim h
      | cont => exact False.elim h
      | ret u =>
        obtain ⟨v, H', os, bare, un, hok', r', q⟩ := h
        have q' : v = .bl true := q
        subst q'
        obtain rfl : u = Value.bool true := r'
        refine ⟨rfl, OldK.of_keep fun b o e => ?_, os, bare⟩
        cases q : H b with
        | none => exact un.keep b o e q (by intro z; exact absurd (show b ∈ ([] : List Addr) from z) (by simp)) (by simp)
        | some u =>
          rcases hO b with z | ⟨ob, xs, z⟩
          · rw [q] at z; cases z
          · have z2 := un.frzs b ob _ z
            obtain ⟨e1, _⟩ := hok b _ z
            obtain ⟨e2, _⟩ := hok' b _ z2
            rw [e] at e1; cases e1
            exact e2
  cases hk : K.lookup a with
  | some o =>
    -- the script is one of the module's own objects
    have e := KX a o hk
    rw [ha] at e
    cases e
    refine core (fun _ => none) (fun _ => .inl rfl) (.inr ⟨_, vs.toArray, _, hk, rfl, rfl, rfl, by rw [List.size_toArray, lenV]; exact hl, by simpa using rv⟩) (fun b u z => by have z' : (none : Option HO) = some u := z; cases z') (fun b z => absurd rfl z) fun z => absurd rfl z
  | none =>
    refine core (fun b => if b = a then some (.frz { cls := .type "list", data := .seq vs.toArray } (.lst (ns.map V.int))) else none) (fun b => ?_) (.inl (.inr ⟨{ cls := .type "list", data := .seq vs.toArray }, if_pos rfl⟩)) (fun b u z => ?_) (fun b z => ?_) fun _ => hk
    · by_cases hb : b = a
      · exact .inr ⟨_, _, if_pos hb⟩
      · exact .inl (if_neg hb)
    · by_cases hb : b = a
      · have z' := (if_pos hb).symm.trans z
        cases z'
        subst hb
        exact ⟨ha, by rw [List.length_map]; exact hl, vs, _, rv, ha⟩
      · have z' := (if_neg hb).symm.trans z
        cases z'
    · by_cases hb : b = a
      · exact hb
      · exact absurd (if_neg hb) z
/-- a law: F gives the written part, the function object, the promise over every base -/
theorem walk_ofG {l : PySem.W.OpenLaw} {n k : Nat} {q : Program} {loose : List Str} {XP : (Str → Option Value) → Heap → Prop} {YP : World → Heap → Prop} {d : DefRec} {x : Str}
    (hn : l.most = some n) (hn2 : n ≤ sizeLine) (hdf : d.params.defaults = []) (hr : Room k callerA)
    (F : ∀ (w : World) (mg : Str → Option Value) (fa : Addr) (h : Heap), YP w h → h.Ns mainGlobals mg → mg d.name = some (.ref fa) →
      ∃ (K : PySem.W.Frag) (fd : FuncData) (sp : Sp), K.In h ∧ (∀ (s : Shared) (u : Value), BindsTo s fd ⟨[u], []⟩ [(x, u)]) ∧
        (∀ (H : Hp) (a : Addr) (ns : List Int), ns.length ≤ n → Only H → SqL K H a (ns.map V.int) → sp [.ref a] H (fun v _ => v = .bl true) fun _ _ _ => False) ∧
        ∀ base : Heap, K.In base → base.Ns mainGlobals mg → FnG l.prog w K mg base (L2.CX l.prog w) k fa fd [x] sp) :
    PySem.W.WalkO q loose XP YP l.row.toRowW d [] (fun f vs => PySem.call f vs) := by
  refine Att.attach_call hn hdf fun w s₀ s₁ mg mb fa o pm cd doc a vs ns G Y ho hd hcd hmg hobj hints hlen hg => ?_
  obtain ⟨K, fd, sp, KX, hb, hsp, hF⟩ := F w mg fa _ Y G.T.g hmg
  exact law_callG KX G.T.g G.T.b G.T.builtins G.T.nolimit hg hobj hints (Nat.le_trans hlen hn2) hr hF hb (fun H hO hS => hsp H a ns hlen hO hS) fun H e s' ⟨_, _, _, _, _, _, _, _, _, _, _, _, z⟩ => z

/-! ### defs by names -/
structure GFn (P : Program) (w : World) (K : PySem.W.Frag) (mg : Str → Option Value) (base : Heap) (x : Str) (k : Nat) (ks : List (Option OP)) (rk : RK) (D : M PyData) : Prop where
  ex : ∃ (f : Addr) (fd : FuncData) (ps : List Str), mg x = some (.ref f) ∧ PySem.W.keepIn K (.ref f) = true ∧ L2.Binds K fd ps [] ∧ FnG P w K mg base (L2.CX P w) k f fd ps (spG K mg ks rk D)
structure GMt (P : Program) (w : World) (K : PySem.W.Frag) (mg : Str → Option Value) (base : Heap) (C : Addr) (m : Str) (k : Nat) (ks : List (Option OP)) (rk : RK) (D : M PyData) : Prop where
  ex : ∃ (f : Addr) (fd : FuncData) (ps : List Str), Meth K C m f ∧ L2.Binds K fd ps [] ∧ FnG P w K mg base (L2.CX P w) k f fd ps (spG K mg ks rk D)
structure GIn (P : Program) (w : World) (K : PySem.W.Frag) (mg : Str → Option Value) (base : Heap) (C : Addr) (k : Nat) (ks : List (Option OP)) (D : M PyData) : Prop where
  ex : ∃ (f : Addr) (fd : FuncData) (ps : List Str), Mk K C f ∧ L2.Binds K fd ps [] ∧ FnG P w K mg base (L2.CX P w) k f fd ps (spG K mg ks .sh D)
theorem Ce.u64 {X : Cx} {W : WX} {k : Nat} (c : Ce X W k) : X.A.units + 64 < cLine := c.rm.units
theorem Ce.u65 {X : Cx} {W : WX} {k : Nat} (c : Ce X W k) : X.A.units + 65 < cLine := by
  have := c.rm.un
  omega
section
variable {X : Cx} {κ : List SK} {W : WX} {pu : Bool} {k k' : Nat} {ks : List (Option OP)} {is : List (Option Nat)} {rk : RK} {D : M PyData} {fa : M (List PyData)} {x m : Str} {p apos pos : Pos} {e : Expr} {es : List Expr} {C : Addr} {ns : List Str} {c : V → Prop}
theorem qe_callF (cx : Ce X W k) (F : GFn X.prog X.w X.K X.mg X.base x k' ks rk D) (hk : k' ≤ k) (hg : Gl X x) (ha : QP X κ W pu ks is (e :: es) fa) (nt : NoTwice is) (hdb : (x == ("__debug__" : Str)) = false := by decide)
    (he : starEach (e :: es) X.env = (false, eval e X.env) :: starEach es X.env := by rfl) (hpl : (backTo pos (starEach es X.env)).any (·.1) = false := by rfl) : QE X κ W (pu && allN is) rk (.Call (.Name x p) (e :: es) [] pos) (eCall is fa D) := by
  obtain ⟨f, fd, ps, h1, h2, h3, h4⟩ := F.ex
  exact qe_call cx h4 hk hg h1 h2 h3 ha nt hdb he hpl
theorem qe_callF0 (cx : Ce X W k) (F : GFn X.prog X.w X.K X.mg X.base x k' [] rk D) (hk : k' ≤ k) (hg : Gl X x) (hdb : (x == ("__debug__" : Str)) = false := by decide) : QE X κ W true rk (.Call (.Name x p) [] [] pos) (eCall [] aNil D) := by
  obtain ⟨f, fd, ps, h1, h2, h3, h4⟩ := F.ex
  exact qe_call0 cx h4 hk hg h1 h2 h3 hdb
theorem qe_makeF (cx : Ce X W k) (F : GIn X.prog X.w X.K X.mg X.base C k' (some (oInD X.K C) :: ks) D) (hk : k' + 1 ≤ k) (hg : Gl X x) (hm : X.mg x = some (.ref C)) (ha : QP X κ W pu ks is (e :: es) fa) (nt : NoTwice is) (hdb : (x == ("__debug__" : Str)) = false := by decide)
    (he : starEach (e :: es) X.env = (false, eval e X.env) :: starEach es X.env := by rfl) (hpl : (backTo pos (starEach es X.env)).any (·.1) = false := by rfl) : QE X κ W false (.ow (oIns X.K C ns)) (.Call (.Name x p) (e :: es) [] pos) (eMake is ns fa D) := by
  obtain ⟨f, fd, ps, h1, h3, h4⟩ := F.ex
  exact qe_make cx h1 h4 hk hg hm h3 ha nt hdb he hpl
theorem qe_methF {pl : Sem Bool} (i : Nat) (cx : Ce X W k) (hk : κ[i]? = some (.ow c (oIns X.K C ns))) (hp : PE X (.Name x p) (tVar i)) (cl : Cls X.K C) (nm : m ∉ ns) (F : GMt X.prog X.w X.K X.mg X.base C m k' (some (oIns X.K C ns) :: ks) rk D) (hkk : k' ≤ k)
    (ha : QP X κ W pu ks is (e :: es) fa) (nt : NoTwice (some i :: is)) (hst : starEach (e :: es) X.env = (false, eval e X.env) :: starEach es X.env := by rfl) (hpl : (backTo pos (starEach es X.env)).any (·.1) = false := by rfl)
    (ht : eval (.Call (.Attribute (.Name x p) m apos) (e :: es) [] pos) X.env = (do
      let ov ← eval (.Name x p) X.env
      standAt apos.atName
      let (f, first) ← holding [ov] (getMethod ov m pl)
      callWith pos f first (backTo pos (starEach (e :: es) X.env)) (backToKw pos (keywordEach [] X.env))) := by rfl) :
    QE X κ W (pu && false) rk (.Call (.Attribute (.Name x p) m apos) (e :: es) [] pos) (eCall (some i :: is) (aIo fa) D) := by
  obtain ⟨f, fd, ps, h1, h3, h4⟩ := F.ex
  exact qe_meth i cx hk hp cl h1 nm h4 hkk h3 ha nt hst hpl ht
theorem qe_methF0 {pl : Sem Bool} (i : Nat) (cx : Ce X W k) (hk : κ[i]? = some (.ow c (oIns X.K C ns))) (hp : PE X (.Name x p) (tVar i)) (cl : Cls X.K C) (nm : m ∉ ns) (F : GMt X.prog X.w X.K X.mg X.base C m k' [some (oIns X.K C ns)] rk D) (hkk : k' ≤ k)
    (ht : eval (.Call (.Attribute (.Name x p) m apos) [] [] pos) X.env = (do
      let ov ← eval (.Name x p) X.env
      standAt apos.atName
      let (f, first) ← holding [ov] (getMethod ov m pl)
      callWith pos f first (backTo pos (starEach [] X.env)) (backToKw pos (keywordEach [] X.env))) := by rfl) :
    QE X κ W false rk (.Call (.Attribute (.Name x p) m apos) [] [] pos) (eCall [some i] (aIo aNil) D) := by
  obtain ⟨f, fd, ps, h1, h3, h4⟩ := F.ex
  exact qe_meth0 i cx hk hp cl h1 nm h4 hkk h3 ht
end
/-! ### x op= e -/
def sAug (i : Nat) (g : PyData → PyData → Option PyData) (fe : M PyData) : MS := fun ρ => match fe ρ with
  | .ok d ρ' => (match ρ[i]? with
    | some e => (match g e d with
      | some r => .nx (ρ'.set i r)
      | none => .bad)
    | none => .bad)
  | .ex c p ρ' => .ex c p ρ'
  | .bad => .bad
def dAddI : PyData → PyData → Option PyData
  | .int i, .int j => some (.int (i + j))
  | _, _ => none
def dSubI : PyData → PyData → Option PyData
  | .int i, .int j => some (.int (i - j))
  | _, _ => none
/-- self.f += e, self.f -= e of whole numbers -/
def sFldAugD (i j : Nat) (g : PyData → PyData → Option PyData) (fe : M PyData) : MS := fun ρ => match ρ[i]? with
  | some (.tuple ds) => (match ds[j]? with
    | some d => (match fe ρ with
      | .ok e ρ' => (match g d e with
        | some r => (match putFld i j r ρ' with
          | some ρ2 => .nx ρ2
          | none => .bad)
        | none => .bad)
      | .ex c p ρ' => .ex c p ρ'
      | .bad => .bad)
    | none => .bad)
  | _ => .bad
section
variable {X : Cx} {J : Jx} {κ : List SK} {i j : Nat} {x f : Str} {c : V → Prop} {C : Addr} {ns : List Str} {p pos pos' : Pos} {pu : Bool} {e : Expr} {fe : M PyData}
theorem qs_fldaug {op : Operator} {rd : V → V → Hp → VK → Prop} {g : PyData → PyData → Option PyData} (i j : Nat) (hop : InOp X op rd) (hrd : ∀ (v y : V) (d e r : PyData) (H : Hp) (Q : VK), Rp X.K H v d → Rp X.K H y e → g d e = some r → (∀ z, Rp X.K H z r → Q z H) → rd v y H Q)
    (hk : κ[i]? = some (.ow c (oIns X.K C ns))) (hj : ns[j]? = some f) (nd : ns.Nodup) (hl : ns.length < 1000) (cl : Cls X.K C) (na : NoAttr X.K C f) (hp : PE X (.Name x p) (tVar i)) (he : QE X κ J.W pu .sh e fe) (wx : Wk κ J.κx) :
    QS X J κ κ (.AugAssign (.Attribute (.Name x p) f pos') op e pos) (sFldAugD i j g fe) := by
  refine PS.imp (ps_fldaug hp he hop) fun D σ H ⟨ρ, G, fr, h⟩ => ?_
  obtain ⟨v, d, e1, e2, _, a, dx, fs, ds, rfl, eG, rfl, h1, h2, h3⟩ := fr.ok i _ hk
  have ej : (fs.map (·.1))[j]? = some f := by rw [h2]; exact hj
  unfold sFldAugD at h
  rw [e2] at h
  dsimp only at h
  cases e3 : ds[j]? with
  | none => rw [e3] at h; exact h.elim
  | some d =>
    rw [e3] at h
    dsimp only at h
    obtain ⟨v, g1, g2⟩ := h3.getD e3
    have el : fs.lookup f = some v := lookup_at (by rw [h2]; exact nd) ej g1
    refine ⟨_, e1, a, C, dx, fs, v, rfl, h1, cl, na, el, ρ, G, fr, ?_⟩
    cases e4 : fe ρ with
    | bad => rw [e4] at h; exact h
    | ex c p ρ' => rw [e4] at h; exact fun cls dd H' G' x f' r' => h cls dd σ H' G' x (f'.weak wx) (r'.sub fun b z => z.weak wx)
    | ok dy ρ' =>
      rw [e4] at h
      dsimp only at h
      intro y H' G' F f' r' s' ok n'
      cases e5 : g d dy with
      | none => rw [e5] at h; exact h.elim
      | some r =>
        rw [e5] at h
        dsimp only at h
        cases e6 : putFld i j r ρ' with
        | none => rw [e6] at h; exact h.elim
        | some ρ2 =>
          rw [e6] at h
          refine hrd v y d dy r H' _ (Rp.kp (fr.kp r') _ _ g2) ok.1 e5 fun z rz => ?_
          obtain ⟨a', dx', fs', q1, q2, q3, q4, q5⟩ := fld_put f' hk hj nd hl rz e6
          rw [e1] at q1
          cases q1
          exact ⟨dx', fs', q2, q3, h σ _ G' q4 (r'.trans q5)⟩
theorem aug_add {K : PySem.W.Frag} (v y : V) (d e r : PyData) (H : Hp) (Q : VK) (h1 : Rp K H v d) (h2 : Rp K H y e) (h3 : dAddI d e = some r) (q : ∀ z, Rp K H z r → Q z H) : rAdd v y H Q := by
  cases d <;> cases e <;> cases h3
  cases h1
  cases h2
  exact ⟨_, _, rfl, rfl, q _ (.int _)⟩
theorem aug_sub {K : PySem.W.Frag} (v y : V) (d e r : PyData) (H : Hp) (Q : VK) (h1 : Rp K H v d) (h2 : Rp K H y e) (h3 : dSubI d e = some r) (q : ∀ z, Rp K H z r → Q z H) : rSub v y H Q := by
  cases d <;> cases e <;> cases h3
  cases h1
  cases h2
  exact ⟨_, _, rfl, rfl, q _ (.int _)⟩
theorem qs_aug {op : Operator} {h0 : Int → Int → Int} {g : PyData → PyData → Option PyData} (i : Nat) (hN : X.N.Nodup) (hi : X.N[i]? = some x) (hx : Loc X.env.scope x) (hop : PIp X op (ipI h0)) (hg : ∀ d e r, g d e = some r → ∃ a b, d = .int a ∧ e = .int b ∧ r = .int (h0 a b)) (hk : κ[i]? = some .sh) (he : QE X κ J.W pu .sh e fe) (wx : Wk κ J.κx)
    (hf : X.fn x = true ∨ X.env.scope.names.lookup x = some .local := by first | exact .inl rfl | exact .inr rfl | assumption) :
    QS X J κ κ (.AugAssign (.Name x pos') op e pos) (sAug i g fe) := by
  refine PS.imp (ps_aug hN hi hx he hop hf) fun D σ H ⟨ρ, G, fr, h⟩ => ?_
  obtain ⟨v, d, e1, e2, r⟩ := fr.ok i _ hk
  unfold sAug at h
  refine ⟨v, e1, ρ, G, fr, ?_⟩
  cases e4 : fe ρ with
  | bad => rw [e4] at h; exact h
  | ex c p ρ' => rw [e4] at h; exact fun cls dd H' G' x f' r' => h cls dd σ H' G' x (f'.weak wx) (r'.sub fun b z => z.weak wx)
  | ok dy ρ' =>
    rw [e4] at h
    dsimp only at h
    rw [e2] at h
    dsimp only at h
    intro y H' G' F f' r' s' ok n'
    cases e5 : g d dy with
    | none => rw [e5] at h; exact h.elim
    | some rr =>
      rw [e5] at h
      obtain ⟨a, b, rfl, rfl, rfl⟩ := hg d dy rr e5
      cases r
      obtain rfl : y = V.int b := ok.pks.int
      have hil : i < κ.length := (List.getElem?_eq_some_iff.mp hk).1
      have es : κ.set i .sh = κ := by
        refine List.ext_getElem? fun m => ?_
        by_cases hm : m = i
        · rw [hm, List.getElem?_set_self hil, hk]
        · rw [List.getElem?_set_ne (Ne.symm hm)]
      have f2 := f'.put (i := i) (k := .sh) (v := .int (h0 a b)) (d := .int (h0 a b)) (F := []) hil ⟨_, _, rfl, rfl, .int _⟩ (fun c o e => nomatch e)
      rw [es] at f2
      refine ⟨a, b, rfl, rfl, h _ H' _ f2 (r'.sub fun b z => ?_)⟩
      have z' : Own (κ.set i .sh) (fun j => if j = i then [] else G' j) b := by rw [es]; exact z
      rcases Own.put hil z' with ⟨z, _⟩ | z
      · cases z
      · exact z
end
end G

/-! G18: facts of a head by places, the rule of a def with its denotation apart from the heap. -/
namespace G
open PySem PySem.Spec PyProof.Rows
open L2 hiding St Inv Binds

def outB : List Bool → Ev → Ev → Ev
  | false :: ks, d :: ds, _ :: es => d :: outB ks ds es
  | true :: ks, _ :: ds, e :: es => e :: outB ks ds es
  | _, _, _ => []
theorem outB_eq : ∀ (ks : List (Option OP)) (ρ ρ' : Ev), outK ks ρ ρ' = outB (ks.map Option.isSome) ρ ρ'
  | [], _, _ => by simp [outK, outB]
  | none :: ks, [], _ => by simp [outK, outB]
  | some o :: ks, [], _ => by simp [outK, outB]
  | none :: ks, _ :: _, [] => by simp [outK, outB]
  | some o :: ks, _ :: _, [] => by simp [outK, outB]
  | none :: ks, d :: ds, e :: es => by
    rw [outK, outB_eq ks]
    rfl
  | some o :: ks, d :: ds, e :: es => by
    rw [outK, outB_eq ks]
    rfl
def fnB (bs : List Bool) (m : Nat) (nn : Bool) (body : MS) : M PyData := fun ρ => match body (ρ ++ List.replicate m .none) with
  | .nx ρ' => if nn = true then .ok .none (outB bs ρ ρ') else .bad
  | .rt d ρ' => .ok d (outB bs ρ ρ')
  | .ex c p ρ' => .ex c p (outB bs ρ ρ')
  | _ => .bad
theorem fnB_eq {ks : List (Option OP)} {m : Nat} {nn : Bool} {body : MS} : fnD ks m nn body = fnB (ks.map Option.isSome) m nn body := by
  funext ρ
  unfold fnD fnB
  cases body (ρ ++ List.replicate m .none) <;> simp only [outB_eq]
theorem fnB_ok {P : Program} {w : World} {K : PySem.W.Frag} {mg : Str → Option Value} {base : Heap} {k : Nat} {x qual : Str} {params : Arguments} {body : List Stmt} {scope : Scope} {f : Addr} {fd : FuncData} {N ps : List Str} {ks : List (Option OP)} {bs : List Bool} {m : Nat} {rk : RK} {nn : Bool} {g : MS} {dvs : List V} {kws : List (Str × V)}
    (F : FunD K x qual params body scope dvs kws f fd) (S : FnScope N ps scope) (hl : ps.length = ks.length) (hN : N.length = ks.length + m) (hnn : nn = true → rk = .sh) (hbs : ks.map Option.isSome = bs)
    (hb : ∀ (cdv : Value) (A : Around) (outer : List Env) (s : Shared) (H : Hp) (vs : List V) (E : XK), vs.length = ks.length → Ce (cxOf (L2.CX P w) P w K mg base N qual scope f cdv A outer s H E) (fun cls d _ H => E cls d H) k →
      PassesOwn (model P w) (A.deeper (envOfC qual scope s.heap.objs.size f cdv)) (envOfC qual scope s.heap.objs.size f cdv) (cxOf (L2.CX P w) P w K mg base N qual scope f cdv A outer s H E).xe →
      ∃ κn, Wk κn (rK ks vs m) ∧ QSs (cxOf (L2.CX P w) P w K mg base N qual scope f cdv A outer s H E) (jF ks vs m rk E) (pK ks vs ++ List.replicate m .no) κn body g) :
    FnG P w K mg base (L2.CX P w) (k + 1) f fd ps (spG K mg ks rk (fnB bs m nn g)) := by
  rw [← hbs, ← fnB_eq]
  exact fnG_ok F S hl hN hnn hb

/-! ### what stands in the head -/
structure Hd (fa : List He.Fa) (fn : List He.DefD) (K : PySem.W.Frag) (mg : Str → Option Value) : Prop where
  ex : ∃ hp : Heap, K.In hp ∧ hp.Ns mainGlobals mg
  sd : He.SaysD fa fn K
section
variable {fa : List He.Fa} {fn : List He.DefD} {K : PySem.W.Frag} {mg : Str → Option Value}
theorem Hd.glo (h : Hd fa fn K mg) (i : Nat) {x : Str} (e : fa[i]? = some (.glo x)) : mg x = some (.ref (He.ga K x)) := let ⟨_, X, G⟩ := h.ex; He.glo_ok X G (h.sd.fact i e)
theorem Hd.free (h : Hd fa fn K mg) (i : Nat) {x : Str} (e : fa[i]? = some (.free x)) : mg x = none := let ⟨_, X, G⟩ := h.ex; He.free_ok X G (h.sd.fact i e)
theorem Hd.int_ (h : Hd fa fn K mg) (i : Nat) {x : Str} {n : Int} (e : fa[i]? = some (.int x n)) : ∃ t, mg x = some (.int n t) := let ⟨_, X, G⟩ := h.ex; He.int_ok X G (h.sd.fact i e)
theorem Hd.str_ (h : Hd fa fn K mg) (i : Nat) {x z : Str} (e : fa[i]? = some (.str x z)) : ∃ t, mg x = some (.str z t) := let ⟨_, X, G⟩ := h.ex; He.str_ok X G (h.sd.fact i e)
theorem Hd.cls_ (h : Hd fa fn K mg) (i : Nat) {x : Str} (e : fa[i]? = some (.cls x)) : Cls K (He.ga K x) := He.cls_ok (h.sd.fact i e)
theorem Hd.noat (h : Hd fa fn K mg) (i : Nat) {x f : Str} (e : fa[i]? = some (.noat x f)) : NoAttr K (He.ga K x) f := He.noat_ok (h.sd.fact i e)
theorem Hd.meth (h : Hd fa fn K mg) (i : Nat) {x m : Str} (e : fa[i]? = some (.meth x m)) : Meth K (He.ga K x) m (He.ma K (He.ga K x) m) := He.meth_ok (h.sd.fact i e)
theorem Hd.mkr (h : Hd fa fn K mg) (i : Nat) {x : Str} (e : fa[i]? = some (.mkr x)) : Mk K (He.ga K x) (He.ma K (He.ga K x) "__init__") := He.mkr_ok (h.sd.fact i e)
theorem Hd.def_ (h : Hd fa fn K mg) (i : Nat) {d : He.DefD} (e : fn[i]? = some d) : ∃ fd, FunD K d.name d.qual d.params d.body d.scope (d.dvs K) (d.kws K) (He.fAd K d.at_) fd := h.sd.def_ i e
end
/-! ### - i -/
def dNeg : PyData → Option PyData
  | .int i => some (.int (-i))
  | _ => none
def eNeg (fa : M PyData) : M PyData := eUn dNeg fa
theorem qe_neg {X : Cx} {κ : List SK} {W : WX} {pu : Bool} {a : Expr} {fa : M PyData} {pos : Pos} (ha : QE X κ W pu .sh a fa) : QE X κ W pu .sh (.UnaryOp .USub a pos) (eNeg fa) := by
  refine PE.imp (pe_un un_neg ha) fun σ H Q ⟨ρ, G, f, q⟩ => ⟨ρ, G, f, ?_⟩
  unfold eNeg eUn at q
  cases e : fa ρ with
  | bad => rw [e] at q; exact q
  | ex c p ρ' => rw [e] at q; exact q
  | ok d ρ1 =>
    rw [e] at q
    intro v1 H1 G1 F1 f1 r1 s1 ok1 n1
    dsimp only at q
    cases eg : dNeg d with
    | none => rw [eg] at q; exact q.elim
    | some r =>
      rw [eg] at q
      cases d with
      | int i =>
        cases eg
        exact ⟨i, ok1.pks.int, q _ H1 G1 [] f1 r1 s1 ⟨.int _, rfl⟩ fun _ z => nomatch z⟩
      | _ => cases eg
theorem aug_ints_add (d e r : PyData) (h : dAddI d e = some r) : ∃ a b, d = .int a ∧ e = .int b ∧ r = .int (a + b) := by
  cases d <;> cases e <;> cases h
  exact ⟨_, _, rfl, rfl, rfl⟩
theorem aug_ints_sub (d e r : PyData) (h : dSubI d e = some r) : ∃ a b, d = .int a ∧ e = .int b ∧ r = .int (a - b) := by
  cases d <;> cases e <;> cases h
  exact ⟨_, _, rfl, rfl, rfl⟩
/-! ### built-ins by names -/
theorem b_len : bootBuiltins "len" = some (.builtin "len") := by decide +kernel
theorem b_sum : bootBuiltins "sum" = some (.builtin "sum") := by decide +kernel
theorem b_min : bootBuiltins "min" = some (.builtin "min") := by decide +kernel
theorem b_max : bootBuiltins "max" = some (.builtin "max") := by decide +kernel
theorem b_sorted : bootBuiltins "sorted" = some (.builtin "sorted") := by decide +kernel
theorem b_all : bootBuiltins "all" = some (.builtin "all") := by decide +kernel
theorem b_any : bootBuiltins "any" = some (.builtin "any") := by decide +kernel
theorem b_repr : bootBuiltins "repr" = some (.builtin "repr") := by decide +kernel
theorem b_list : bootBuiltins "list" = some (.type "list") := by decide +kernel
theorem b_tuple : bootBuiltins "tuple" = some (.type "tuple") := by decide +kernel
theorem b_int : bootBuiltins "int" = some (.type "int") := by decide +kernel
theorem b_bool : bootBuiltins "bool" = some (.type "bool") := by decide +kernel
theorem b_str : bootBuiltins "str" = some (.type "str") := by decide +kernel
theorem b_dict : bootBuiltins "dict" = some (.type "dict") := by decide +kernel
/-- the script as data -/
theorem script_rp {K : PySem.W.Frag} {H : Hp} {a : Addr} {ns : List Int} (hO : Only H) (h : SqL K H a (ns.map V.int)) : Rp K H (.ref a) (.list (ns.map .int)) := by
  refine .lst ?_ (RpAll.ints ns)
  rcases h with (h | ⟨o, h⟩) | h
  · rcases hO a with z | ⟨o, xs, z⟩
    · rw [h] at z; cases z
    · rw [h] at z; cases z
  · exact .inl ⟨o, h⟩
  · exact .inr h
/-- a law's def ends with True at every script -/
theorem law_sp {K : PySem.W.Frag} {mg : Str → Option Value} {D : M PyData} {n : Nat} (hD : ∀ ns : List Int, ns.length ≤ n → ∃ ρ', D [.list (ns.map .int)] = .ok (.bool true) ρ') (H : Hp) (a : Addr) (ns : List Int) (hl : ns.length ≤ n) (hO : Only H) (hS : SqL K H a (ns.map V.int)) :
    spG K mg [none] .sh D [.ref a] H (fun v _ => v = .bl true) fun _ _ _ => False := by
  refine ⟨rfl, [.list (ns.map .int)], fun _ => [], ⟨rfl, rfl, fun i k e => ?_, fun i j c o c' o' e => ?_⟩, ?_⟩
  · cases i with
    | zero => cases e; exact ⟨_, _, rfl, rfl, script_rp hO hS⟩
    | succ i => simp [pK] at e
  · cases i with
    | zero => cases e
    | succ i => simp [pK] at e
  · obtain ⟨ρ', e⟩ := hD ns hl
    rw [e]
    intro v H' G' F f' r' ok n'
    exact ok.pks.bool
end G
namespace G
open PySem PySem.Spec PyProof.Rows
open L2 hiding St Inv Binds
/-- a block's names, looked at by a test -/
def blkB (N : List Str) (sc scope : Scope) (own : List (Str × Nat)) : Bool :=
  decide (scope.kind = .function) && (scope.names.all fun y => decide (scope.names.lookup y.1 = some y.2)) && (own.all fun p => decide (N[p.2]? = some p.1)) &&
    (scope.names.all fun y => !decide (y.2 = .free) || (decide (sc.names.lookup y.1 = some .cell) || decide (sc.names.lookup y.1 = some .free))) &&
    (scope.names.all fun y => !(decide (y.2 = .local) || decide (y.2 = .cell)) || (decide (y.1 ∈ own.map (·.1)) || !decide (y.1 ∈ N)))
theorem blk_of {N : List Str} {sc scope : Scope} {own : List (Str × Nat)} (h : blkB N sc scope own = true) : BlkOk N sc scope own := by
  unfold blkB at h
  simp only [Bool.and_eq_true, List.all_eq_true, decide_eq_true_iff, Bool.or_eq_true, Bool.not_eq_true', decide_eq_false_iff_not] at h
  obtain ⟨⟨⟨⟨h1, h2⟩, h3⟩, h4⟩, h5⟩ := h
  refine ⟨h1, h2, h3, fun y hy e => ?_, fun y hy e => ?_⟩
  · rcases h4 y hy with z | z
    · exact absurd e z
    · exact z
  · rcases h5 y hy with z | z
    · rw [Bool.or_eq_false_iff, decide_eq_false_iff_not, decide_eq_false_iff_not] at z
      exact e.elim (fun q => absurd q z.1) fun q => absurd q z.2
    · exact z
end G

/-! G19: the draws' plain law. -/
namespace G
open PySem PySem.Spec PyProof.Rows
open L2 hiding St Inv Binds

/-- the record of draws -/
def dat (cs gs : List Int) (k : Int) : PyData := .tuple [.list (cs.map .int), .list (gs.map .int), .int k]
theorem plain_ints : ∀ ns : List Int, PyData.plainAll (ns.map PyData.int) = true
  | [] => rfl
  | n :: ns => by
    show (PyData.plain (.int n) && PyData.plainAll (ns.map .int)) = true
    rw [plain_ints ns]; rfl
theorem depth_ints : ∀ ns : List Int, PyData.depthAll (ns.map PyData.int) = 0
  | [] => rfl
  | n :: ns => by
    show max (PyData.depth (.int n)) (PyData.depthAll (ns.map .int)) = 0
    rw [depth_ints ns]; rfl
theorem okD_ints (ns : List Int) : okD (.list (ns.map .int)) = true := by
  unfold okD
  have h1 : PyData.plain (.list (ns.map .int)) = true := plain_ints ns
  have h2 : PyData.depth (.list (ns.map .int)) = 1 := by
    show PyData.depthAll (ns.map .int) + 1 = 1
    rw [depth_ints]
  rw [h1, h2]; rfl
theorem ne_nil (ns : List Int) : dNe (.list (ns.map .int)) (.list []) = some (.bool !ns.isEmpty) := by
  unfold dNe
  rw [if_pos ⟨okD_ints ns, rfl⟩]
  cases ns <;> rfl
theorem cut1 (d : PyData) (ds : List PyData) : dSlL (.list (d :: ds)) (some 1) none = some (.list ds) := by
  unfold dSlL cutD
  have h1 : HT.sIx (d :: ds).length 0 (some 1) = 1 := by
    unfold HT.sIx
    simp
  have h2 : HT.sIx (d :: ds).length (d :: ds).length none = (d :: ds).length := by
    unfold HT.sIx
    rfl
  show some (PyData.list (((d :: ds).drop (HT.sIx (d :: ds).length 0 (some 1))).take (HT.sIx (d :: ds).length (d :: ds).length none - HT.sIx (d :: ds).length 0 (some 1)))) = _
  rw [h1, h2]
  simp
def dropZ : List Int → List Int
  | [] => []
  | x :: xs => if x = 0 then dropZ xs else x :: xs
def DNw : M Bool := bAnd (eTst asB (eBin dNe (eM 0 1) (eLst aNil))) (eTst asB (eBin dEq (eBin dIx (eM 0 1) (eK (.int 0))) (eK (.int 0))))
def DNb : MS := sPutM 0 1 (eSl dSlL (eM 0 1) (oSome (eK (.int 1))) oNone)
theorem sWhile_f {c : M Bool} {body : MS} {n : Nat} {ρ ρ' : Ev} (h : c ρ = .ok false ρ') : sWhile c body (n + 1) ρ = .nx ρ' := by
  unfold sWhile
  rw [h]
  rfl
theorem sWhile_t {c : M Bool} {body : MS} {n : Nat} {ρ ρ' ρ2 : Ev} (h : c ρ = .ok true ρ') (h2 : body ρ' = .nx ρ2) : sWhile c body (n + 1) ρ = sWhile c body n ρ2 := by
  conv => lhs; unfold sWhile
  rw [h]
  dsimp only
  rw [if_pos rfl, h2]
theorem eNe_great (cs gs : List Int) (k : Int) (r : Ev) : eBin dNe (eM 0 1) (eLst aNil) (dat cs gs k :: r) = .ok (.bool !gs.isEmpty) (dat cs gs k :: r) := by
  have e : eBin dNe (eM 0 1) (eLst aNil) (dat cs gs k :: r) = (match dNe (.list (gs.map .int)) (.list []) with
    | some r' => RS.ok r' (dat cs gs k :: r)
    | none => .bad) := rfl
  rw [e, ne_nil]
theorem tNe_great (cs gs : List Int) (k : Int) (r : Ev) : eTst asB (eBin dNe (eM 0 1) (eLst aNil)) (dat cs gs k :: r) = .ok (!gs.isEmpty) (dat cs gs k :: r) := by
  unfold eTst
  rw [eNe_great]
  rfl
theorem eq_int (x y : Int) : dEq (.int x) (.int y) = some (.bool (x == y)) := by
  have h : ∀ z : Int, okD (.int z) = true := fun z => by kernel_rfl
  unfold dEq
  rw [if_pos ⟨h x, h y⟩]
  kernel_rfl
theorem atI_zero (d : PyData) (ds : List PyData) : dIx (.list (d :: ds)) (.int 0) = some d := by
  show atI (d :: ds) 0 = some d
  unfold atI ixN
  simp
theorem eBin_ok {g : PyData → PyData → Option PyData} {fa fb : M PyData} {ρ ρ1 ρ2 : Ev} {a b r : PyData} (ha : fa ρ = .ok a ρ1) (hb : fb ρ1 = .ok b ρ2) (hg : g a b = some r) : eBin g fa fb ρ = .ok r ρ2 := by
  unfold eBin; rw [ha]; dsimp only; rw [hb]; dsimp only; rw [hg]
theorem while_next (cs : List Int) (k : Int) (r : Ev) (gs : List Int) : ∀ (n : Nat), gs.length < n → sWhile DNw DNb n (dat cs gs k :: r) = .nx (dat cs (dropZ gs) k :: r) := by
  induction gs with
  | nil =>
    intro n h
    cases n with
    | zero => exact absurd h (Nat.not_lt_zero _)
    | succ n =>
    refine sWhile_f ?_
    unfold DNw bAnd
    rw [tNe_great]
    rfl
  | cons x gs ih =>
    intro n h
    cases n with
    | zero => exact absurd h (Nat.not_lt_zero _)
    | succ n =>
    have e1 : DNw (dat cs (x :: gs) k :: r) = .ok (x == 0) (dat cs (x :: gs) k :: r) := by
      have e0 : eTst asB (eBin dEq (eBin dIx (eM 0 1) (eK (.int 0))) (eK (.int 0))) (dat cs (x :: gs) k :: r) = (match dEq (.int x) (.int 0) with
        | some d => (match asB d with
          | some b => RS.ok b (dat cs (x :: gs) k :: r)
          | none => .bad)
        | none => .bad) := by
        have e1 : eBin dIx (eM 0 1) (eK (.int 0)) (dat cs (x :: gs) k :: r) = .ok (.int x) (dat cs (x :: gs) k :: r) := eBin_ok (a := .list ((x :: gs).map .int)) (b := .int 0) rfl rfl (atI_zero _ _)
        have e2 : eBin dEq (eBin dIx (eM 0 1) (eK (.int 0))) (eK (.int 0)) (dat cs (x :: gs) k :: r) = (match dEq (.int x) (.int 0) with
          | some d => RS.ok d (dat cs (x :: gs) k :: r)
          | none => .bad) := by
          unfold eBin at e1 ⊢
          rw [e1]
          rfl
        unfold eTst
        rw [e2, eq_int] <;> rfl
      unfold DNw bAnd
      rw [tNe_great]
      dsimp only
      rw [if_pos (show (!(x :: gs).isEmpty) = true from rfl), e0, eq_int]
      rfl
    by_cases hx : x = 0
    · subst hx
      have e2 : DNb (dat cs (0 :: gs) k :: r) = .nx (dat cs gs k :: r) := by
        have q : eSl dSlL (eM 0 1) (oSome (eK (.int 1))) oNone (dat cs (0 :: gs) k :: r) = .ok (.list (gs.map .int)) (dat cs (0 :: gs) k :: r) := by
          have e : eSl dSlL (eM 0 1) (oSome (eK (.int 1))) oNone (dat cs (0 :: gs) k :: r) = (match dSlL (.list (.int 0 :: gs.map .int)) (some 1) none with
            | some r' => RS.ok r' (dat cs (0 :: gs) k :: r)
            | none => .bad) := rfl
          rw [e, cut1]
        unfold DNb sPutM
        rw [q]
        rfl
      rw [sWhile_t e1 e2, ih n (by simpa using h)]
      rfl
    · have e3 : (x == 0) = false := by simpa using hx
      rw [e3] at e1
      rw [sWhile_f e1]
      show _ = SR.nx (dat cs (if x = 0 then dropZ gs else x :: gs) k :: r)
      rw [if_neg hx]
/-- the next number below t -/
def DN (fuel : Nat) (p a b q c d s e : Int) : M PyData := fnB [true, false] 4 false (sSeq (sWhile DNw DNb fuel) (sSeq (sIf (eTst asB (eBin dNe (eM 0 1) (eLst aNil))) (sSeq (sSet 2 (eCB dInt (aCons (eBin dIx (eM 0 1) (eK (.int 0))) aNil))) (sSeq (sPutG0 0 0 (eBin dDiv (eV 2) (eV 1))) (sRet (eBin dMod (eV 2) (eV 1))))) sNil)
  (sSeq (sSet 3 (eBin dAdd (eM 0 2) (eK (.int 1)))) (sSeq (sPutMi 0 2 (eV 3)) (sSeq (sSet 4 (eIf (eTst asB (eBin dNe (eM 0 0) (eLst aNil))) (eBin dIx (eM 0 0) (eBin dMod (eCB dInt (aCons (eV 3) aNil)) (eCB dLen (aCons (eM 0 0) aNil)))) (eK (.int 47))))
  (sSeq (sSet 5 (eBin dMul (eCB dInt (aCons (eBin dAdd (eBin dAdd (eBin dMod (eCB dInt (aCons (eV 4) aNil)) (eK (.int p))) (eBin dMul (eK (.int a)) (eV 3))) (eBin dMul (eBin dMul (eK (.int b)) (eV 3)) (eV 3))) aNil)) (eK (.int q))))
  (sSeq (sSet 5 (eBin dMul (eCB dInt (aCons (eBin dAdd (eBin dMod (eCB dInt (aCons (eV 5) aNil)) (eK (.int p))) (eBin dMul (eK (.int c)) (eV 3))) aNil)) (eK (.int d))))
  (sRet (eBin dMod (eCB dInt (aCons (eBin dDiv (eBin dMod (eCB dInt (aCons (eV 5) aNil)) (eK (.int s))) (eK (.int e))) aNil)) (eV 1))))))))))
theorem log_small {i : Int} {n : Nat} (h : i.natAbs < 2 ^ n) (hn : 0 < n) : i.natAbs.log2 < n := by
  by_cases h0 : i.natAbs = 0
  · rw [h0]; simpa using hn
  · exact (Nat.log2_lt h0).mpr h
theorem dMul_ok {i j : Int} (h1 : i.natAbs < 2 ^ 4000) (h2 : j.natAbs < 2 ^ 4000) : dMul (.int i) (.int j) = some (.int (i * j)) := by
  show (if i.natAbs.log2 + j.natAbs.log2 < 100000000 then _ else _) = _
  rw [if_pos]
  have := log_small h1 (by decide)
  have := log_small h2 (by decide)
  omega
theorem dMod_ok {i j : Int} (h : 0 < j) : dMod (.int i) (.int j) = some (.int (i % j)) := if_pos h
theorem dDiv_ok {i j : Int} (h : 0 < j) (h2 : j.natAbs < 2 ^ 4000) : dDiv (.int i) (.int j) = some (.int (i / j)) := by
  have := log_small h2 (by decide)
  exact if_pos ⟨h, by omega⟩
theorem atI_int {ns : List Int} {i : Int} (h0 : 0 ≤ i) (h1 : i < ns.length) : ∃ n, atI (ns.map PyData.int) i = some (.int n) := by
  unfold atI ixN
  rw [if_pos h0, List.length_map, if_pos h1]
  refine ⟨ns[i.toNat]'(by omega), ?_⟩
  simp [show i.toNat < ns.length by omega]
theorem eInt_ok {fa : M PyData} {ρ ρ1 : Ev} {i : Int} (ha : fa ρ = .ok (.int i) ρ1) : eCB dInt (aCons fa aNil) ρ = .ok (.int i) ρ1 := by
  unfold eCB aCons; rw [ha]; rfl
theorem ix0 (d : PyData) (ds : List PyData) : ixN (d :: ds).length 0 = some 0 := by
  unfold ixN
  simp
def Sm (n : Nat) (i : Int) : Prop := i.natAbs < 2 ^ n
theorem Sm.mul {m n : Nat} {i j : Int} (h1 : Sm m i) (h2 : Sm n j) : Sm (m + n) (i * j) := by
  unfold Sm at *
  rw [Int.natAbs_mul, Nat.pow_add]
  exact Nat.mul_lt_mul'' h1 h2
theorem Sm.add {m : Nat} {i j : Int} (h1 : Sm m i) (h2 : Sm m j) : Sm (m + 1) (i + j) := by
  unfold Sm at *
  have := Int.natAbs_add_le i j
  rw [Nat.pow_succ]
  omega
theorem Sm.up {m n : Nat} {i : Int} (h : Sm m i) (hl : m ≤ n) : Sm n i := Nat.lt_of_lt_of_le h (Nat.pow_le_pow_right (by decide) hl)
theorem Sm.of {n : Nat} {i : Int} (h0 : 0 ≤ i) (h1 : i < 2 ^ n) : Sm n i := by
  unfold Sm
  have e : ((2 ^ n : Nat) : Int) = 2 ^ n := by simp
  omega
theorem Sm.mod {n : Nat} {i j : Int} (h0 : 0 < j) (h : Sm n j) : Sm n (i % j) := by
  unfold Sm at *
  have h1 := Int.emod_nonneg i (Int.ne_of_gt h0)
  have h2 := Int.emod_lt_of_pos i h0
  omega
theorem eMul_ok {fa fb : M PyData} {ρ ρ1 ρ2 : Ev} {i j : Int} (ha : fa ρ = .ok (.int i) ρ1) (hb : fb ρ1 = .ok (.int j) ρ2) (h1 : Sm 4000 i) (h2 : Sm 4000 j) : eBin dMul fa fb ρ = .ok (.int (i * j)) ρ2 := eBin_ok ha hb (dMul_ok h1 h2)
theorem eAdd_ok {fa fb : M PyData} {ρ ρ1 ρ2 : Ev} {i j : Int} (ha : fa ρ = .ok (.int i) ρ1) (hb : fb ρ1 = .ok (.int j) ρ2) : eBin dAdd fa fb ρ = .ok (.int (i + j)) ρ2 := eBin_ok ha hb rfl
theorem eMod_ok {fa fb : M PyData} {ρ ρ1 ρ2 : Ev} {i j : Int} (ha : fa ρ = .ok (.int i) ρ1) (hb : fb ρ1 = .ok (.int j) ρ2) (h : 0 < j) : eBin dMod fa fb ρ = .ok (.int (i % j)) ρ2 := eBin_ok ha hb (dMod_ok h)
theorem eDiv_ok {fa fb : M PyData} {ρ ρ1 ρ2 : Ev} {i j : Int} (ha : fa ρ = .ok (.int i) ρ1) (hb : fb ρ1 = .ok (.int j) ρ2) (h : 0 < j) (h2 : Sm 4000 j) : eBin dDiv fa fb ρ = .ok (.int (i / j)) ρ2 := eBin_ok ha hb (dDiv_ok h h2)
theorem tNe_cells (cs gs : List Int) (k : Int) (r : Ev) : eTst asB (eBin dNe (eM 0 0) (eLst aNil)) (dat cs gs k :: r) = .ok (!cs.isEmpty) (dat cs gs k :: r) := by
  have e0 : eBin dNe (eM 0 0) (eLst aNil) (dat cs gs k :: r) = .ok (.bool !cs.isEmpty) (dat cs gs k :: r) := by
    have e : eBin dNe (eM 0 0) (eLst aNil) (dat cs gs k :: r) = (match dNe (.list (cs.map .int)) (.list []) with
      | some r' => RS.ok r' (dat cs gs k :: r)
      | none => .bad) := rfl
    rw [e, ne_nil]
  unfold eTst
  rw [e0]
  rfl
theorem cell_ok (cs : List Int) (k : Int) (r : Ev) (hk : 0 ≤ k) (hr : r[2]? = some (.int k)) : ∃ v, eIf (eTst asB (eBin dNe (eM 0 0) (eLst aNil))) (eBin dIx (eM 0 0) (eBin dMod (eCB dInt (aCons (eV 3) aNil)) (eCB dLen (aCons (eM 0 0) aNil)))) (eK (.int 47)) (dat cs [] k :: r) = .ok (.int v) (dat cs [] k :: r) := by
  have h3 : eV 3 (dat cs [] k :: r) = .ok (.int k) (dat cs [] k :: r) := by
    unfold eV
    rw [List.getElem?_cons_succ, hr]
  cases cs with
  | nil =>
    refine ⟨47, ?_⟩
    unfold eIf
    rw [tNe_cells]
    rfl
  | cons c cs =>
    have hl : (0 : Int) < ((c :: cs).length : Int) := by rw [List.length_cons]; omega
    have e1 : eBin dMod (eCB dInt (aCons (eV 3) aNil)) (eCB dLen (aCons (eM 0 0) aNil)) (dat (c :: cs) [] k :: r) = .ok (.int (k % ((c :: cs).length : Nat))) (dat (c :: cs) [] k :: r) := by
      refine eMod_ok (j := (((c :: cs).length : Nat) : Int)) (eInt_ok h3) ?_ hl
      have e : eCB dLen (aCons (eM 0 0) aNil) (dat (c :: cs) [] k :: r) = .ok (.int (((c :: cs).map PyData.int).length : Nat)) (dat (c :: cs) [] k :: r) := rfl
      rw [e, List.length_map]
    obtain ⟨v, hv⟩ := atI_int (ns := c :: cs) (i := k % ((c :: cs).length : Nat)) (Int.emod_nonneg _ (Int.ne_of_gt hl)) (Int.emod_lt_of_pos _ hl)
    refine ⟨v, ?_⟩
    unfold eIf
    rw [tNe_cells]
    dsimp only
    rw [if_pos (show (!(c :: cs).isEmpty) = true from rfl)]
    exact eBin_ok (a := .list ((c :: cs).map .int)) rfl e1 hv
theorem sSeq_nx {f g : MS} {ρ ρ' : Ev} (h : f ρ = .nx ρ') : sSeq f g ρ = g ρ' := by unfold sSeq; rw [h]
theorem sSeq_rt {f g : MS} {ρ ρ' : Ev} {d : PyData} (h : f ρ = .rt d ρ') : sSeq f g ρ = .rt d ρ' := by unfold sSeq; rw [h]
theorem sIf_t {c : M Bool} {f g : MS} {ρ ρ' : Ev} (h : c ρ = .ok true ρ') : sIf c f g ρ = f ρ' := by unfold sIf; rw [h]; rfl
theorem sIf_f {c : M Bool} {f g : MS} {ρ ρ' : Ev} (h : c ρ = .ok false ρ') : sIf c f g ρ = g ρ' := by unfold sIf; rw [h]; rfl
theorem sSet_ok {i : Nat} {fe : M PyData} {ρ ρ' : Ev} {d : PyData} (h : fe ρ = .ok d ρ') : sSet i fe ρ = .nx (ρ'.set i d) := by unfold sSet; rw [h]
theorem sRet_ok {fe : M PyData} {ρ ρ' : Ev} {d : PyData} (h : fe ρ = .ok d ρ') : sRet fe ρ = .rt d ρ' := by unfold sRet; rw [h]
/-- the draws' next number -/
theorem next_ok {fuel : Nat} {p a b q c d s e : Int} (hp : 0 < p ∧ p < 2 ^ 100) (ha : 0 ≤ a ∧ a < 2 ^ 100) (hb : 0 ≤ b ∧ b < 2 ^ 100) (hq : 0 ≤ q ∧ q < 2 ^ 100) (hc : 0 ≤ c ∧ c < 2 ^ 100) (hd : 0 ≤ d ∧ d < 2 ^ 100) (hs : 0 < s ∧ s < 2 ^ 100) (he : 0 < e ∧ e < 2 ^ 100)
    {cs gs : List Int} {k t : Int} (hk : 0 ≤ k ∧ k < 2 ^ 100) (ht : 0 < t ∧ t < 2 ^ 1000) (hf : gs.length < fuel) :
    ∃ r gs' k', DN fuel p a b q c d s e [dat cs gs k, .int t] = .ok (.int r) [dat cs gs' k', .int t] ∧ 0 ≤ r ∧ r < t ∧ gs'.length ≤ gs.length ∧ k ≤ k' ∧ k' ≤ k + 1 := by
  have hlen : ∀ gs : List Int, (dropZ gs).length ≤ gs.length := by
    intro gs
    induction gs with
    | nil => exact Nat.le_refl _
    | cons x xs ih =>
      unfold dropZ
      split
      · rw [List.length_cons]; omega
      · exact Nat.le_refl _
  have hl := hlen gs
  have hw := while_next cs k [.int t, .none, .none, .none, .none] gs fuel hf
  generalize hz : dropZ gs = zs at hl hw
  cases zs with
  | cons x xs =>
    have e1 : eCB dInt (aCons (eBin dIx (eM 0 1) (eK (.int 0))) aNil) [dat cs (x :: xs) k, .int t, .none, .none, .none, .none] = .ok (.int x) [dat cs (x :: xs) k, .int t, .none, .none, .none, .none] := eInt_ok (eBin_ok (a := .list ((x :: xs).map .int)) (b := .int 0) rfl rfl (atI_zero _ _))
    have tt : t.natAbs < 2 ^ 4000 := by
      have h1 : t.natAbs < 2 ^ 1000 := by omega
      exact Nat.lt_of_lt_of_le h1 (Nat.pow_le_pow_right (by decide) (by decide))
    have e2 : eBin dDiv (eV 2) (eV 1) [dat cs (x :: xs) k, .int t, .int x, .none, .none, .none] = .ok (.int (x / t)) [dat cs (x :: xs) k, .int t, .int x, .none, .none, .none] := eBin_ok (a := .int x) (b := .int t) rfl rfl (dDiv_ok ht.1 tt)
    have e3 : eBin dMod (eV 2) (eV 1) [dat cs (x / t :: xs) k, .int t, .int x, .none, .none, .none] = .ok (.int (x % t)) [dat cs (x / t :: xs) k, .int t, .int x, .none, .none, .none] := eBin_ok (a := .int x) (b := .int t) rfl rfl (dMod_ok ht.1)
    have e4 : sPutG0 0 0 (eBin dDiv (eV 2) (eV 1)) [dat cs (x :: xs) k, .int t, .int x, .none, .none, .none] = .nx [dat cs (x / t :: xs) k, .int t, .int x, .none, .none, .none] := by
      unfold sPutG0
      rw [e2]
      show (match ixN (PyData.int x :: xs.map .int).length 0 with
        | some j => SR.nx (List.set [dat cs (x :: xs) k, .int t, .int x, .none, .none, .none] 0 (.tuple [.list (cs.map .int), .list (List.set (PyData.int x :: xs.map .int) j (.int (x / t))), .int k]))
        | none => .bad) = _
      rw [ix0]
      rfl
    refine ⟨x % t, x / t :: xs, k, ?_, Int.emod_nonneg _ (by omega), Int.emod_lt_of_pos _ ht.1, hl, Int.le_refl _, by omega⟩
    unfold DN fnB
    have eb : ∀ g : MS, sSeq (sWhile DNw DNb fuel) (sSeq (sIf (eTst asB (eBin dNe (eM 0 1) (eLst aNil))) (sSeq (sSet 2 (eCB dInt (aCons (eBin dIx (eM 0 1) (eK (.int 0))) aNil))) (sSeq (sPutG0 0 0 (eBin dDiv (eV 2) (eV 1))) (sRet (eBin dMod (eV 2) (eV 1))))) sNil) g) ([dat cs gs k, .int t] ++ List.replicate 4 .none) = .rt (.int (x % t)) [dat cs (x / t :: xs) k, .int t, .int x, .none, .none, .none] := by
      intro g
      refine (sSeq_nx hw).trans (sSeq_rt ?_)
      refine (sIf_t (tNe_great cs (x :: xs) k _)).trans ?_
      refine (sSeq_nx (sSet_ok e1)).trans ?_
      exact (sSeq_nx e4).trans (sRet_ok e3)
    rw [eb]
    rfl
  | nil =>
    have k1 : Sm 101 (k + 1) := .of (by omega) (by have : (2 : Int) ^ 100 < 2 ^ 101 := by decide
                                                   omega)
    have e1 : eBin dAdd (eM 0 2) (eK (.int 1)) [dat cs [] k, .int t, .none, .none, .none, .none] = .ok (.int (k + 1)) [dat cs [] k, .int t, .none, .none, .none, .none] := eAdd_ok rfl rfl
    have e2 : sPutMi 0 2 (eV 3) [dat cs [] k, .int t, .none, .int (k + 1), .none, .none] = .nx [dat cs [] (k + 1), .int t, .none, .int (k + 1), .none, .none] := rfl
    obtain ⟨v, e3⟩ := cell_ok cs (k + 1) [.int t, .none, .int (k + 1), .none, .none] (by omega) rfl
    have P : Sm 100 p := .of (by omega) hp.2
    have A := Sm.of ha.1 ha.2
    have B := Sm.of hb.1 hb.2
    have C := Sm.of hc.1 hc.2
    have Q := Sm.of hq.1 hq.2
    have Dd := Sm.of hd.1 hd.2
    have m1 : Sm 100 (v % p) := .mod hp.1 P
    have m2 : Sm 201 (a * (k + 1)) := A.mul k1
    have m3 : Sm 201 (b * (k + 1)) := B.mul k1
    have m4 : Sm 302 (b * (k + 1) * (k + 1)) := m3.mul k1
    have m5 : Sm 304 (v % p + a * (k + 1) + b * (k + 1) * (k + 1)) := ((m1.up (by decide)).add m2 |>.up (by decide : 202 ≤ 303)).add (m4.up (by decide))
    have e4 : eBin dMul (eCB dInt (aCons (eBin dAdd (eBin dAdd (eBin dMod (eCB dInt (aCons (eV 4) aNil)) (eK (.int p))) (eBin dMul (eK (.int a)) (eV 3))) (eBin dMul (eBin dMul (eK (.int b)) (eV 3)) (eV 3))) aNil)) (eK (.int q)) [dat cs [] (k + 1), .int t, .none, .int (k + 1), .int v, .none]
        = .ok (.int ((v % p + a * (k + 1) + b * (k + 1) * (k + 1)) * q)) [dat cs [] (k + 1), .int t, .none, .int (k + 1), .int v, .none] :=
      eMul_ok (eInt_ok (eAdd_ok (eAdd_ok (eMod_ok (eInt_ok rfl) rfl hp.1) (eMul_ok rfl rfl (A.up (by decide)) (k1.up (by decide)))) (eMul_ok (eMul_ok rfl rfl (B.up (by decide)) (k1.up (by decide))) rfl (m3.up (by decide)) (k1.up (by decide))))) rfl (m5.up (by decide)) (Q.up (by decide))
    generalize (v % p + a * (k + 1) + b * (k + 1) * (k + 1)) * q = y at e4
    have n1 : Sm 100 (y % p) := .mod hp.1 P
    have n2 : Sm 201 (c * (k + 1)) := C.mul k1
    have n3 : Sm 202 (y % p + c * (k + 1)) := (n1.up (by decide)).add n2
    have e5 : eBin dMul (eCB dInt (aCons (eBin dAdd (eBin dMod (eCB dInt (aCons (eV 5) aNil)) (eK (.int p))) (eBin dMul (eK (.int c)) (eV 3))) aNil)) (eK (.int d)) [dat cs [] (k + 1), .int t, .none, .int (k + 1), .int v, .int y]
        = .ok (.int ((y % p + c * (k + 1)) * d)) [dat cs [] (k + 1), .int t, .none, .int (k + 1), .int v, .int y] :=
      eMul_ok (eInt_ok (eAdd_ok (eMod_ok (eInt_ok rfl) rfl hp.1) (eMul_ok rfl rfl (C.up (by decide)) (k1.up (by decide))))) rfl (n3.up (by decide)) (Dd.up (by decide))
    generalize (y % p + c * (k + 1)) * d = z at e5
    have e6 : eBin dMod (eCB dInt (aCons (eBin dDiv (eBin dMod (eCB dInt (aCons (eV 5) aNil)) (eK (.int s))) (eK (.int e))) aNil)) (eV 1) [dat cs [] (k + 1), .int t, .none, .int (k + 1), .int v, .int z]
        = .ok (.int (z % s / e % t)) [dat cs [] (k + 1), .int t, .none, .int (k + 1), .int v, .int z] :=
      eMod_ok (eInt_ok (eDiv_ok (eMod_ok (eInt_ok rfl) rfl hs.1) rfl he.1 ((Sm.of (by omega) he.2).up (by decide)))) rfl ht.1
    refine ⟨z % s / e % t, [], k + 1, ?_, Int.emod_nonneg _ (by omega), Int.emod_lt_of_pos _ ht.1, Nat.zero_le _, by omega, Int.le_refl _⟩
    unfold DN fnB
    have eb : ∀ f : MS, sSeq (sWhile DNw DNb fuel) (sSeq (sIf (eTst asB (eBin dNe (eM 0 1) (eLst aNil))) f sNil) (sSeq (sSet 3 (eBin dAdd (eM 0 2) (eK (.int 1)))) (sSeq (sPutMi 0 2 (eV 3)) (sSeq (sSet 4 (eIf (eTst asB (eBin dNe (eM 0 0) (eLst aNil))) (eBin dIx (eM 0 0) (eBin dMod (eCB dInt (aCons (eV 3) aNil)) (eCB dLen (aCons (eM 0 0) aNil)))) (eK (.int 47))))
        (sSeq (sSet 5 (eBin dMul (eCB dInt (aCons (eBin dAdd (eBin dAdd (eBin dMod (eCB dInt (aCons (eV 4) aNil)) (eK (.int p))) (eBin dMul (eK (.int a)) (eV 3))) (eBin dMul (eBin dMul (eK (.int b)) (eV 3)) (eV 3))) aNil)) (eK (.int q))))
        (sSeq (sSet 5 (eBin dMul (eCB dInt (aCons (eBin dAdd (eBin dMod (eCB dInt (aCons (eV 5) aNil)) (eK (.int p))) (eBin dMul (eK (.int c)) (eV 3))) aNil)) (eK (.int d))))
        (sRet (eBin dMod (eCB dInt (aCons (eBin dDiv (eBin dMod (eCB dInt (aCons (eV 5) aNil)) (eK (.int s))) (eK (.int e))) aNil)) (eV 1)))))))))
        ([dat cs gs k, .int t] ++ List.replicate 4 .none) = .rt (.int (z % s / e % t)) [dat cs [] (k + 1), .int t, .none, .int (k + 1), .int v, .int z] := by
      intro f
      refine (sSeq_nx hw).trans ?_
      refine (sSeq_nx (ρ' := [dat cs [] k, .int t, .none, .none, .none, .none]) (sIf_f (tNe_great cs [] k _))).trans ?_
      refine (sSeq_nx (sSet_ok e1)).trans ?_
      refine (sSeq_nx e2).trans ?_
      refine (sSeq_nx (sSet_ok e3)).trans ?_
      refine (sSeq_nx (sSet_ok e4)).trans ?_
      exact (sSeq_nx (sSet_ok e5)).trans (sRet_ok e6)
    rw [eb]
    rfl
end G
namespace G
open PySem PySem.Spec PyProof.Rows
open L2 hiding St Inv Binds
/-- the draws begun -/
def DB : M PyData := fnB [false] 2 false (sSeq (sSet 1 (eLc [2] (iV (eV 0)) (gN 2) (eTst asB (eBin dGe (eV 2) (eBin dPow (eK (.int 10)) (eK (.int 18))))) (eV 2))) (sRetM 1 (eCB dList (aCons (eV 0) aNil)) 0))
theorem ten18 : dPow (.int 10) (.int 18) = some (.int 1000000000000000000) := by kernel_rfl
theorem lc_great (x0 x1 : PyData) : ∀ (ns : List Int) (c : PyData), ∃ (gs : List Int) (c' : PyData), lcGo (gN 2) (eTst asB (eBin dGe (eV 2) (eBin dPow (eK (.int 10)) (eK (.int 18))))) (eV 2) (ns.map .int) [x0, x1, c] = some (gs.map PyData.int, [x0, x1, c']) ∧ gs.length ≤ ns.length
  | [], c => ⟨[], c, rfl, Nat.le_refl _⟩
  | n :: ns, c => by
    obtain ⟨gs, c', h, hl⟩ := lc_great x0 x1 ns (.int n)
    have e0 : eBin dGe (eV 2) (eBin dPow (eK (.int 10)) (eK (.int 18))) [x0, x1, .int n] = .ok (.bool (decide (1000000000000000000 ≤ n))) [x0, x1, .int n] :=
      eBin_ok (g := dGe) (fa := eV 2) (fb := eBin dPow (eK (.int 10)) (eK (.int 18))) (ρ := [x0, x1, .int n]) (ρ1 := [x0, x1, .int n]) (ρ2 := [x0, x1, .int n]) (a := .int n) (b := .int 1000000000000000000) (r := .bool (decide (1000000000000000000 ≤ n))) rfl (eBin_ok (a := .int 10) (b := .int 18) rfl rfl ten18) rfl
    have e : eTst asB (eBin dGe (eV 2) (eBin dPow (eK (.int 10)) (eK (.int 18)))) [x0, x1, .int n] = .ok (decide (1000000000000000000 ≤ n)) [x0, x1, .int n] := by
      unfold eTst
      rw [e0]
      rfl
    have st : ∀ (ft : M Bool) (fe : M PyData), lcGo (gN 2) ft fe ((n :: ns).map .int) [x0, x1, c] = (match ft [x0, x1, .int n] with
      | .ok b ρ2 => if b = true then (match fe ρ2 with
          | .ok y ρ3 => (match lcGo (gN 2) ft fe (ns.map .int) ρ3 with
            | some (ys, ρ4) => some (y :: ys, ρ4)
            | none => none)
          | _ => none) else lcGo (gN 2) ft fe (ns.map .int) ρ2
      | _ => none) := fun ft fe => rfl
    rw [st, e]
    dsimp only
    by_cases hn : 1000000000000000000 ≤ n
    · refine ⟨n :: gs, c', ?_, by rw [List.length_cons, List.length_cons]; omega⟩
      rw [decide_eq_true hn, if_pos rfl]
      show (match lcGo (gN 2) (eTst asB (eBin dGe (eV 2) (eBin dPow (eK (.int 10)) (eK (.int 18))))) (eV 2) (ns.map .int) [x0, x1, .int n] with
        | some (ys, ρ4) => some (PyData.int n :: ys, ρ4)
        | none => none) = _
      rw [h]
      rfl
    · refine ⟨gs, c', ?_, by rw [List.length_cons]; omega⟩
      rw [decide_eq_false hn, if_neg Bool.false_ne_true]
      exact h
theorem begun_ok (cs : List Int) (h : cs.length ≤ 1000) : ∃ gs, DB [.list (cs.map .int)] = .ok (dat cs gs 0) [.list (cs.map .int)] ∧ gs.length ≤ cs.length := by
  obtain ⟨gs, c', hg, hl⟩ := lc_great (.list (cs.map .int)) .none cs .none
  refine ⟨gs, ?_, hl⟩
  have hz : (gs.map PyData.int).length ≤ sizeLine := by
    rw [List.length_map]
    exact Nat.le_trans (Nat.le_trans hl h) (by decide)
  have e1 : eLc [2] (iV (eV 0)) (gN 2) (eTst asB (eBin dGe (eV 2) (eBin dPow (eK (.int 10)) (eK (.int 18))))) (eV 2) [.list (cs.map .int), .none, .none] = .ok (.list (gs.map .int)) [.list (cs.map .int), .none, .none] := by
    unfold eLc
    show (match lcGo (gN 2) (eTst asB (eBin dGe (eV 2) (eBin dPow (eK (.int 10)) (eK (.int 18))))) (eV 2) (cs.map .int) [.list (cs.map .int), .none, .none] with
      | some (out, ρ2) => if out.length ≤ sizeLine then RS.ok (PyData.list out) (rst [PyData.list (cs.map .int), PyData.none, PyData.none] [2] ρ2) else .bad
      | none => .bad) = _
    rw [hg]
    dsimp only
    rw [if_pos hz]
    rfl
  unfold DB fnB
  have e2 : sSeq (sSet 1 (eLc [2] (iV (eV 0)) (gN 2) (eTst asB (eBin dGe (eV 2) (eBin dPow (eK (.int 10)) (eK (.int 18))))) (eV 2))) (sRetM 1 (eCB dList (aCons (eV 0) aNil)) 0) ([.list (cs.map .int)] ++ List.replicate 2 .none) = .rt (dat cs gs 0) [.list (cs.map .int), .list (gs.map .int), .none] := by
    refine (sSeq_nx (sSet_ok e1)).trans ?_
    rfl
  rw [e2]
  rfl
/-- one of some, drawn -/
def DO (D : M PyData) : M PyData := fnB [true, false] 0 false (sRet (eBin dIx (eV 1) (eCall [some 0, none] (aIo (aCons (eCB dLen (aCons (eV 1) aNil)) aNil)) D)))
theorem of_ok {D : M PyData} {m m' : PyData} {ds : List PyData} {r : Int} (h : D [m, .int (ds.length : Nat)] = .ok (.int r) [m', .int (ds.length : Nat)]) (h0 : 0 ≤ r) (h1 : r < (ds.length : Nat)) : DO D [m, .list ds] = .ok (ds.getD r.toNat .none) [m', .list ds] := by
  have e1 : eCall [some 0, none] (aIo (aCons (eCB dLen (aCons (eV 1) aNil)) aNil)) D [m, .list ds] = .ok (.int r) [m', .list ds] := by
    have e : eCall [some 0, none] (aIo (aCons (eCB dLen (aCons (eV 1) aNil)) aNil)) D [m, .list ds] = (match D [m, .int (ds.length : Nat)] with
      | .ok r es => RS.ok r (putIo [some 0, none] es [m, .list ds])
      | .ex c p es => .ex c p (putIo [some 0, none] es [m, .list ds])
      | .bad => .bad) := rfl
    rw [e, h]
    rfl
  have e2 : dIx (.list ds) (.int r) = some (ds.getD r.toNat .none) := by
    show atI ds r = _
    unfold atI ixN
    rw [if_pos h0, if_pos h1]
    have hl : r.toNat < ds.length := by omega
    simp [List.getD_eq_getElem?_getD, hl]
  unfold DO fnB
  have e3 : sRet (eBin dIx (eV 1) (eCall [some 0, none] (aIo (aCons (eCB dLen (aCons (eV 1) aNil)) aNil)) D)) ([m, .list ds] ++ List.replicate 0 .none) = .rt (ds.getD r.toNat .none) [m', .list ds] := sRet_ok (eBin_ok (a := .list ds) rfl e1 e2)
  rw [e3]
  rfl
end G

/-! G20: found.insert(i, v) of an own list. -/
namespace G
open PySem PySem.Spec PyProof.Rows
open L2 hiding St Inv Binds
def insPut : List PyData → List PyData → Option (List PyData)
  | [.int k, d], ds => if ds.length < sizeLine ∧ 0 ≤ k ∧ k < 2 ^ 63 then some (ds.take k.toNat ++ [d] ++ ds.drop k.toNat) else none
  | _, _ => none
theorem insPut_inv {as ds r : List PyData} (h : insPut as ds = some r) : ∃ k d, as = [.int k, d] ∧ (ds.length < sizeLine ∧ 0 ≤ k ∧ k < 2 ^ 63) ∧ r = ds.take k.toNat ++ [d] ++ ds.drop k.toNat := by
  unfold insPut at h
  split at h
  · rename_i k d
    split at h
    · rename_i hl
      cases h
      exact ⟨k, d, rfl, hl, rfl⟩
    · cases h
  · cases h
def eInsert (i : Nat) (fa : M (List PyData)) : M PyData := fun ρ => match fa ρ with
  | .ok as ρ1 => (match ρ1[i]? with
    | some (.list ds) => (match insPut as ds with
      | some r => .ok .none (ρ1.set i (.list r))
      | none => .bad)
    | _ => .bad)
  | .ex c p ρ' => .ex c p ρ'
  | .bad => .bad
section
variable {X : Cx} {κ : List SK} {W : WX} {pu : Bool} {x : Str} {p apos cpos : Pos} {e1 e2 : Expr} {fa : M (List PyData)} {c : V → Prop}
theorem qe_insert (i : Nat) (hk : κ[i]? = some (.ow c (oLst X.K))) (hp : PE X (.Name x p) (tVar i)) (he : QA X κ W pu [.sh, .sh] [e1, e2] fa)
    (hbase : attributeBase (.Name x p) "insert" X.env (eval (.Name x p) X.env) = eval (.Name x p) X.env := by rfl)
    (hfew : ((backTo cpos (starEach [e1, e2] X.env)).all (fun x => !x.1) && (backToKw cpos (keywordEach [] X.env)).all (fun x => x.1.isSome)
      && decide (([e1, e2] : List Expr).length + ([] : List Keyword).length + (if ([] : List Keyword).isEmpty then 0 else 1) < 30)) = true := by rfl)
    (hline : (apos.endLine == cpos.line) = true := by rfl) (hs : starEach [e1, e2] X.env = (false, eval e1 X.env) :: starEach [e2] X.env := by rfl) (hplain : (backTo cpos (starEach [e2] X.env)).any (·.1) = false := by rfl) :
    QE X κ W false .sh (.Call (.Attribute (.Name x p) "insert" apos) [e1, e2] [] cpos) (eInsert i fa) := by
  refine PE.imp (pe_bm PySem.F.plainAttrs_list PySem.F.slot_list_insert PySem.F.type_list_insert mt_insert hp he hbase hfew hline hs hplain) fun σ H Q ⟨ρ, G, fr, q⟩ => ?_
  obtain ⟨v, d, q1, q2, _, a, xs, ds, rfl, eG, rfl, h1, h2⟩ := fr.ok i _ hk
  refine ⟨_, q1, .inl ⟨rfl, xs, .of h1⟩, ρ, G, fr, ?_⟩
  unfold eInsert at q
  cases e3 : fa ρ with
  | bad => rw [e3] at q; exact q
  | ex c p ρ' => rw [e3] at q; exact q
  | ok ds0 ρ1 =>
    rw [e3] at q
    intro vs H1 G1 f1 r1 s1 ok1
    have rp := ok1.rp (by simp)
    obtain ⟨v', d', e1', e2', _, a', xs', ds', rfl, eG', rfl, h1', h2'⟩ := f1.ok i _ hk
    rw [q1] at e1'
    cases e1'
    dsimp only at q
    rw [e2'] at q
    dsimp only at q
    cases e4 : insPut ds0 ds' with
    | none => rw [e4] at q; exact q.elim
    | some r =>
      rw [e4] at q
      obtain ⟨k, d, rfl, hl, rfl⟩ := insPut_inv e4
      cases rp with
      | cons rk rp =>
        cases rp with
        | cons ry rp =>
          cases rp
          rename_i v1 y
          have kp : Kp H1 (upd H1 a (.lst (xs'.take k.toNat ++ [y] ++ xs'.drop k.toNat))) := kp_upd h1' rfl
          have hm : a ∈ G1 i := by rw [eG']; simp
          have ne : ∀ b u, b ∉ G1 i → H1 b = some u → (upd H1 a (.lst (xs'.take k.toNat ++ [y] ++ xs'.drop k.toNat))) b = some u := fun b u hb e => upd_other hm hb e
          have rk' : v1 = .int k := by cases rk; rfl
          subst rk'
          have rr := RpAll.kp kp _ _ h2'
          exact ⟨a, xs', k, y, rfl, rfl, h1', by rw [h2'.len]; exact hl.1, hl.2.1, hl.2.2, q .non _ G1 [] (f1.wr hk q1 ⟨a, _, _, rfl, eG', rfl, upd_same, ((rr.take k.toNat).append (.cons (Rp.kp kp _ _ ry) .nil)).append (rr.drop k.toNat)⟩ kp ne) (r1.trans (Rel.wr hk ne fun b z => upd_none z)) (fun z => nomatch z) ⟨.non, rfl⟩ fun _ z => nomatch z⟩
end
end G

/-! G21: sorted(set(xs)) of a list of whole numbers. -/
namespace G
open PySem PySem.Spec PyProof.Rows
open L2 hiding St Inv Binds
abbrev newS (w : World) : Obj := { cls := .type "set", dict := none, data := .set #[] 0 (.fresh 0 0 (!w.params.followText "set-order")) }
section
variable {P : Program} {w : World} {A : Around} {E : Value → Shared → Prop} {s : Shared}
set_option maxHeartbeats 3200000 in
theorem set_of_list {l : Addr} {items : Array Value} (ns : List Int) {Q : Value → Shared → Prop} (hh : A.handled = none) (hl : s.heap.IsList l items) (hit : IntsAre items.toList ns) (hb : ns.length + 1 < scanBound)
    (h : ∀ (h' : Heap) (tk c : Nat), SetR w h' s.heap.objs.size (fun j => decide (j ∈ ns)) c → c ≤ ns.length → (∀ b o, s.heap.get? b = some o → h'.get? b = some o) → Q (.ref s.heap.objs.size) { s with heap := h', toks := tk }) :
    wpAny (model P w) A (call (.type "set") [.ref l]) Q E s := by
  have zn : items.size = ns.length := by
    have q := IntsAre.length hit
    rw [Array.length_toList] at q
    exact q
  obtain ⟨c, tl, q0⟩ := PySem.F.called_set.mro
  have q1 := PySem.F.called_set.made
  have q2 := PySem.F.called_set.sub
  refine wpAny_call (codeAny_of_tree ?_)
  show wpAny _ _ (callAny (.type "set") _) _ _ _
  refine wpAny_pure ⟨Code.quiet_builtin _ (by decide +kernel), codeAny_builtin PySem.F.entry_type_call ?_⟩
  rw [Around.under_plain (weight_type_call_type "set" [.ref l] []) rfl]
  have q3 := PySem.F.called_set.notType
  have q4 := PySem.F.called_set.canCreate
  have q5 := PySem.F.typeCall_set_1 (.ref l)
  repeat (any_goals (first | assumption | wp_step))
  refine codeAny_mono (code_set_led1 (.ref l) (E := E) (Q₁ := fun obj s₁ => obj = .ref s.heap.objs.size ∧ s₁ = { s with heap := s.heap.push (newS w) }) ⟨rfl, rfl⟩) fun r s₁ hr => ?_
  cases r with
  | error e => exact hr
  | ok fl =>
    cases fl with
    | ret obj =>
      obtain ⟨rfl, rfl⟩ := hr
      have gS : (s.heap.push (newS w)).get? s.heap.objs.size = some (newS w) := Heap.get?_push_size _ rfl
      have tS : Shared.TypeIs { s with heap := s.heap.push (newS w) } (.ref s.heap.objs.size) "set" := ⟨_, gS, rfl⟩
      have q6 := PySem.F.called_set.init.lookup
      have q7 := PySem.F.called_set.init.bind (.ref s.heap.objs.size)
      repeat (any_goals (first | assumption | wp_step))
      refine codeAny_mono (codeAny_call_builtin (R := wants (fun r s₂ => r = .none ∧ ∃ h' tk c, s₂ = { s with heap := h', toks := tk } ∧ SetR w h' s.heap.objs.size (fun j => decide (j ∈ ns)) c ∧ c ≤ ns.length ∧
          (∀ b o, s.heap.get? b = some o → h'.get? b = some o)) E) PySem.F.called_set.init.plain PySem.F.entry_set_init (check_set_init_1 tS ?_)) fun r₂ s₂ hr₂ => ?_
      · obtain ⟨ol, hol, hcl, nl, hdl⟩ := hl
        obtain ⟨ocls, odict, odata, oslots⟩ := ol
        simp only at hcl hdl
        subst hcl; subst hdl
        have gl : (s.heap.push (newS w)).get? l = some { cls := .type "list", dict := odict, data := .seq items nl, slots := oslots } := Heap.get?_push_of_some _ hol
        have q8 := PySem.F.sub_list_set
        have q9 := PySem.F.sub_list_frozenset
        have qd : (Value.type "list" == Value.type "dict") = false := by decide
        have ll : (s.heap.push (newS w)).IsList l items := ⟨_, gl, rfl, nl, rfl⟩
        unfold Builtin.«set.__init__» noKeywords Builtin.Frozenset.updateFrom
        generalize qPI : pyIter = PI
        wp_walk
        subst qPI
        refine wpAny_pyIter_list ll ?_
        refine wpAny_bind (wpAny_runValue ?_)
        have lS : l < s.heap.objs.size := Heap.lt_size hol
        have h3 : A.in1.in1.in1.handled = none := by simp [hh]
        have nI : l ≠ (s.heap.push (newS w)).objs.size := by
          rw [Heap.size_push]; exact Nat.ne_of_lt (Nat.lt_succ_of_lt lS)
        have nS : s.heap.objs.size ∉ [(s.heap.push (newS w)).objs.size, l] := by
          rw [Heap.size_push]; simp only [List.mem_cons, List.mem_singleton, List.not_mem_nil, or_false, not_or]
          exact ⟨Nat.ne_of_lt (Nat.lt_succ_self _), Nat.ne_of_gt lS⟩
        have val : ∀ (i : Nat) (v : Value), items[i]? = some v → ∃ k t, ns[i]? = some k ∧ v = .int k t := fun i v hv => by
          have hi : i < ns.length := by rw [← zn]; exact (Array.getElem?_eq_some_iff.mp hv).1
          obtain ⟨t, e⟩ := PyProof.Rows.IntsAre.int_at hit i v (by rw [Array.getElem?_toList]; exact hv)
          refine ⟨ns[i], t, List.getElem?_eq_getElem hi, ?_⟩
          rw [e, List.getD_eq_getElem?_getD, List.getElem?_eq_getElem hi] <;> rfl
        refine set_update_ints ((Walks.list h3 _ l nI items).toS) s.heap.objs.size
          nS ns zn hb val (items.size - 0) 0 _ (by omega) (Nat.zero_le _)
          ⟨⟨_, Heap.get?_push_size _ rfl, rfl, rfl⟩, (ll.push _)⟩ ?b0 ?b1
        case b0 =>
          have g2 : ((s.heap.push (newS w)).push { cls := .type "list_iterator", data := .fields #[.ref l, .int 0 0] }).get? s.heap.objs.size = some (newS w) := Heap.get?_push_of_some _ gS
          exact ⟨0, Nat.le_refl 0, setR_new_at g2⟩
        case b1 =>
          intro s' c' hm hc' hS'
          obtain ⟨h', g2, d', tk', os'⟩ := s'
          have eg : g2 = s.gens := hm.gens
          have ed : d' = s.drawn := hm.drawn
          have eo : os' = s.os := hm.os
          subst eg; subst ed; subst eo
          show wpAny _ _ _ _ _ _
          refine wpAny_pure ?_
          show wpAny _ _ (ret Value.none) _ _ _
          rw [zn] at hc'
          refine wpAny_pure ⟨rfl, h', tk', c', rfl, hS', hc', fun b o e => ?_⟩
          have b0 : b < s.heap.objs.size := Heap.lt_size e
          have b1 : b ≠ s.heap.objs.size := Nat.ne_of_lt b0
          have b2 : b ≠ (s.heap.push (newS w)).objs.size := by
            rw [Heap.size_push]; exact Nat.ne_of_lt (Nat.lt_succ_of_lt b0)
          exact hm.heap b o (by simp only [List.mem_cons, List.mem_singleton, List.not_mem_nil, or_false, not_or]; exact ⟨b1, b2⟩) (Heap.get?_push_of_some _ (Heap.get?_push_of_some _ e))
      · cases r₂ with
        | error e => exact hr₂
        | ok fl₂ =>
          cases fl₂ with
          | ret r =>
            obtain ⟨rfl, h', tk, c', rfl, hS', hc', hk'⟩ := hr₂
            repeat (any_goals (first | assumption | wp_step))
            exact h _ _ _ hS' hc' hk'
          | _ => exact hr₂.elim
    | _ => exact hr.elim
end
section
variable {X : Cx}
/-- set(xs), xs a list of whole numbers -/
def rSetL (K : PySem.W.Frag) (w : World) : List V → Hp → VK → Prop := fun xs H Q => ∃ (l : Addr) (ns : List Int), xs = [.ref l] ∧ SqL K H l (ns.map V.int) ∧ ns.length ≤ 4000 ∧
  ∀ p c, H p = none → c ≤ ns.length → Q (.ref p) (upd H p (SetO w p (fun j => decide (j ∈ ns)) c))
theorem cr_setL (hc : X.calm = true) : CallR X (.type "set") (rSetL X.K X.w) := by
  intro pins s σ H xs us Q I r h
  obtain ⟨l, ns, rfl, hq, hz, q⟩ := h
  obtain ⟨u, rfl, ru⟩ := vals1 r
  obtain rfl : u = Value.ref l := ru
  obtain ⟨its, rv, pl, hzz⟩ := I.list hq
  refine set_of_list ns (I.ok.hd hc) pl.isList (by simpa using ints_of_vals rv) (by unfold scanBound; omega) fun h' tk c R1 hcn k => ?_
  exact ⟨.ref _, upd H s.heap.objs.size (SetO X.w s.heap.objs.size (fun j => decide (j ∈ ns)) c), I.laid (t' := tk) k (Nat.le_refl _) (setO_new R1), rfl, q _ _ (I.hok.fresh (Nat.le_refl _)) hcn⟩
end
/-- each once, rising -/
def insU (x : Int) : List Int → List Int
  | [] => [x]
  | y :: r => if x < y then x :: y :: r else if x = y then y :: r else y :: insU x r
def srtU : List Int → List Int
  | [] => []
  | x :: r => insU x (srtU r)
theorem mem_insU (x k : Int) : ∀ l : List Int, k ∈ insU x l ↔ k = x ∨ k ∈ l
  | [] => by simp [insU]
  | y :: r => by
    unfold insU
    split
    · simp
    · split
      · rename_i e; subst e; simp
      · rw [List.mem_cons, mem_insU x k r, List.mem_cons]
        constructor
        · rintro (h | h | h)
          · exact .inr (.inl h)
          · exact .inl h
          · exact .inr (.inr h)
        · rintro (h | h | h)
          · exact .inr (.inl h)
          · exact .inl h
          · exact .inr (.inr h)
theorem insU_lt (x : Int) : ∀ l : List Int, l.Pairwise (· < ·) → (insU x l).Pairwise (· < ·)
  | [], _ => List.pairwise_singleton ..
  | y :: r, h => by
    obtain ⟨h1, h2⟩ := List.pairwise_cons.mp h
    unfold insU
    split
    · rename_i hx
      refine List.pairwise_cons.mpr ⟨fun z hz => ?_, h⟩
      rcases List.mem_cons.mp hz with rfl | hz
      · exact hx
      · exact Int.lt_trans hx (h1 z hz)
    · split
      · exact h
      · refine List.pairwise_cons.mpr ⟨fun z hz => ?_, insU_lt x r h2⟩
        rcases (mem_insU x z r).mp hz with rfl | hz
        · omega
        · exact h1 z hz
theorem srtU_lt : ∀ l : List Int, (srtU l).Pairwise (· < ·)
  | [] => .nil
  | x :: r => insU_lt x _ (srtU_lt r)
theorem mem_srtU (k : Int) : ∀ l : List Int, k ∈ srtU l ↔ k ∈ l
  | [] => Iff.rfl
  | x :: r => by
    show k ∈ insU x (srtU r) ↔ _
    rw [mem_insU, mem_srtU k r, List.mem_cons]
theorem lt_unique : ∀ a b : List Int, a.Pairwise (· < ·) → b.Pairwise (· < ·) → (∀ k, k ∈ a ↔ k ∈ b) → a = b
  | [], [], _, _, _ => rfl
  | [], y :: r, _, _, h => absurd ((h y).2 List.mem_cons_self) (by simp)
  | x :: r, [], _, _, h => absurd ((h x).1 List.mem_cons_self) (by simp)
  | x :: r, y :: t, ha, hb, h => by
    obtain ⟨a1, a2⟩ := List.pairwise_cons.mp ha
    obtain ⟨b1, b2⟩ := List.pairwise_cons.mp hb
    have e : x = y := by
      have p := (h x).1 List.mem_cons_self
      have q := (h y).2 List.mem_cons_self
      rcases List.mem_cons.mp p with p | p
      · exact p
      · rcases List.mem_cons.mp q with q | q
        · exact q.symm
        · have := b1 x p
          have := a1 y q
          omega
    subst e
    congr 1
    refine lt_unique r t a2 b2 fun k => ?_
    constructor
    · intro hk
      rcases List.mem_cons.mp ((h k).1 (List.mem_cons_of_mem _ hk)) with z | z
      · have := a1 k hk; omega
      · exact z
    · intro hk
      rcases List.mem_cons.mp ((h k).2 (List.mem_cons_of_mem _ hk)) with z | z
      · have := b1 k hk; omega
      · exact z
def dSrtU : PyData → Option PyData
  | .list ds => match allI ds with
    | some ns => if ns.length < 64 then some (.list ((srtU ns).map .int)) else none
    | none => none
  | _ => none
theorem allI_map : ∀ {ds : List PyData} {ns : List Int}, allI ds = some ns → ds = ns.map PyData.int
  | [], _, h => by cases h; rfl
  | d :: ds, ns, h => by
    obtain ⟨i, ms, rfl, e, rfl⟩ := allI_cons h
    rw [allI_map e]; rfl
section
variable {X : Cx} {κ : List SK} {W : WX} {pu : Bool} {k : RK} {e : Expr} {f : M PyData} {p p2 q pos : Pos}
theorem qe_srtU (hc : X.calm = true) (hg : Gl X "sorted") (hm : X.mg "sorted" = none) (hg2 : Gl X "set") (hm2 : X.mg "set" = none) (h : QE X κ W pu k e f) (hl : k.looks X.K := by trivial)
    (n1 : starEach [e] X.env = (false, eval e X.env) :: starEach [] X.env := by rfl)
    (n2 : starEach [.Call (.Name "set" p2) [e] [] q] X.env = (false, eval (.Call (.Name "set" p2) [e] [] q) X.env) :: starEach [] X.env := by rfl) :
    QE X κ W pu (.ow (oLst X.K)) (.Call (.Name "sorted" p) [.Call (.Name "set" p2) [e] [] q] [] pos) (eUn dSrtU f) := by
  refine PE.imp (pe_callB (cr_sortedSet hc) hg hm boot_sorted (pa_cons (pe_callTy (cr_setL hc) hg2 hm2 boot_set (pa_cons h pa_nil n1) (he := n1)) pa_nil n2) (he := n2)) fun σ H Q ⟨ρ, G, fr, z⟩ => ⟨ρ, G, fr, ?_⟩
  unfold eUn at z
  cases e1 : f ρ with
  | bad => rw [e1] at z; exact z
  | ex c p ρ' => rw [e1] at z; exact z
  | ok d ρ1 =>
    rw [e1] at z
    intro v H1 G1 F1 f1 r1 s1 ok1 n1
    dsimp only at z
    unfold dSrtU at z
    split at z
    · rename_i r e2
      split at e2
      · rename_i ds
        split at e2
        · rename_i ns e3
          split at e2
          · rename_i hlen
            cases e2
            obtain rfl := allI_map e3
            obtain ⟨a, xs, rfl, hq, hr⟩ := (ok1.pk hl).list
            obtain rfl := RpAll.ints_inv ns hr
            refine ⟨a, ns, rfl, hq, by omega, fun p c hp hcn => ?_⟩
            refine ⟨p, _, c, rfl, upd_same, by omega, fun ns' p' hs hm' hcl hp' => ?_⟩
            have en : ns' = srtU ns := lt_unique _ _ hs (srtU_lt ns) fun k => by
              rw [hm', mem_srtU, decide_eq_true_eq]
            subst en
            have hp1 : H1 p' = none := upd_none hp'
            have sm : Same H1 (upd (upd H1 p (SetO X.w p (fun j => decide (j ∈ ns)) c)) p' (.lst ((srtU ns).map V.int))) := (same_upd0 hp).trans (same_upd0 hp')
            refine z (.ref p') _ G1 [p'] (f1.same sm) (r1.trans (.of_same sm)) (fun hpu => (s1 hpu).trans sm) ⟨p', _, _, rfl, rfl, rfl, upd_same, RpAll.ints _⟩ fun b hb => ?_
            rw [List.mem_singleton] at hb
            subst hb
            exact ⟨.inr (r1.non _ hp1), fun y => by
              obtain ⟨u, e4, _⟩ := f1.live y
              rw [hp1] at e4; cases e4⟩
          · cases e2
        · cases e2
      · cases e2
    · exact z.elim
end
end G

/-! G22: line rules, plainly: when people are told, windows, rounds that come again. -/
namespace SP
abbrev OI := Option Int
def minL : List Int → OI
  | [] => none
  | x :: xs => some (xs.foldl min x)
def oS (b : Int) : OI → OI := Option.map fun x => x - b
/-- f people ahead of k -/
def Z (t : Nat → OI) (k f : Nat) : OI := if f ≤ k then t (k - f) else none
def cell (i : Nat) : OI → List Int
  | some x => [x + i + 1]
  | none => []
def cands (t : Nat → OI) (k : Nat) : Nat → List Nat → List Int
  | _, [] => []
  | i, f :: r => cell i (Z t k f) ++ cands t k (i + 1) r
def candW (w : List OI) : Nat → List Nat → List Int
  | _, [] => []
  | i, f :: r => cell i (w.getD (w.length - f) none) ++ candW w (i + 1) r
def nxt (line gone : List Nat) (t : Nat → OI) (k : Nat) : OI := if k ∈ gone then none else minL (cands t k 0 line)
def film (line gone : List Nat) : Nat → List OI
  | 0 => [some 0]
  | n + 1 => film line gone n ++ [nxt line gone (fun j => (film line gone n).getD j none) (n + 1)]
def T (line gone : List Nat) (k : Nat) : OI := (film line gone k).getD k none
section
variable {line gone : List Nat}
theorem film_len : ∀ n, (film line gone n).length = n + 1
  | 0 => rfl
  | n + 1 => by rw [film, List.length_append, film_len n]; rfl
theorem film_up (n : Nat) : ∀ d j, j ≤ n → (film line gone (n + d)).getD j none = (film line gone n).getD j none
  | 0, _, _ => rfl
  | d + 1, j, h => by
    rw [show n + (d + 1) = n + d + 1 from rfl, film, List.getD_eq_getElem?_getD, List.getElem?_append_left (by rw [film_len]; omega), ← List.getD_eq_getElem?_getD]
    exact film_up n d j h
theorem film_get {n j : Nat} (h : j ≤ n) : (film line gone n).getD j none = T line gone j := by
  obtain ⟨d, rfl⟩ : ∃ d, n = j + d := ⟨n - j, by omega⟩
  exact film_up j d j (Nat.le_refl _)
theorem Z_congr {t t' : Nat → OI} {k f : Nat} (hf : 1 ≤ f) (h : ∀ j, j < k → t j = t' j) : Z t k f = Z t' k f := by
  unfold Z
  by_cases e : f ≤ k
  · rw [if_pos e, if_pos e, h _ (by omega)]
  · rw [if_neg e, if_neg e]
theorem cands_congr {t t' : Nat → OI} {k k' : Nat} : ∀ (i : Nat) (l : List Nat), (∀ f ∈ l, Z t k f = Z t' k' f) → cands t k i l = cands t' k' i l
  | _, [], _ => rfl
  | i, f :: r, h => by
    rw [cands, cands, h f List.mem_cons_self, cands_congr (i + 1) r fun g hg => h g (List.mem_cons_of_mem _ hg)]
theorem T_zero : T line gone 0 = some 0 := rfl
theorem T_succ (hl : ∀ f ∈ line, 1 ≤ f) (n : Nat) : T line gone (n + 1) = nxt line gone (T line gone) (n + 1) := by
  have e : T line gone (n + 1) = nxt line gone (fun j => (film line gone n).getD j none) (n + 1) := by
    show (film line gone n ++ [nxt line gone (fun j => (film line gone n).getD j none) (n + 1)]).getD (n + 1) none = _
    rw [List.getD_eq_getElem?_getD, List.getElem?_append_right (by rw [film_len]; exact Nat.le_refl _), film_len, Nat.sub_self]
    rfl
  rw [e]
  unfold nxt
  rw [cands_congr (t' := T line gone) (k' := n + 1) 0 line fun f hf => Z_congr (hl f hf) fun j hj => film_get (by omega)]
/-- the film is the list of the ticks -/
theorem film_eq (n : Nat) : film line gone n = (List.range (n + 1)).map (T line gone) := by
  refine List.ext_getElem? fun j => ?_
  by_cases h : j ≤ n
  · have e := film_get (line := line) (gone := gone) h
    rw [List.getElem?_map, List.getElem?_range (by omega)]
    have hl : j < (film line gone n).length := by rw [film_len]; omega
    rw [List.getD_eq_getElem?_getD, List.getElem?_eq_getElem hl] at e
    rw [List.getElem?_eq_getElem hl]
    exact congrArg some e
  · rw [List.getElem?_eq_none (by rw [film_len]; omega), List.getElem?_eq_none (by rw [List.length_map, List.length_range]; omega)]
end
/-! ### windows -/
def win (t : Nat → OI) (n : Nat) (b : Int) (R : Nat) : List OI := (List.range R).map fun i => oS b (Z t (n + 1 + i) R)
theorem win_len {t n b R} : (win t n b R).length = R := by unfold win; rw [List.length_map, List.length_range]
theorem oS_zero (o : OI) : oS 0 o = o := by cases o <;> simp [oS]
theorem oS_oS (b c : Int) (o : OI) : oS c (oS b o) = oS (b + c) o := by
  cases o with
  | none => rfl
  | some x => show some (x - b - c) = some (x - (b + c)); congr 1; omega
theorem Z_add {t : Nat → OI} {k f d : Nat} : Z t (k + d) (f + d) = Z t k f := by
  unfold Z
  by_cases h : f ≤ k
  · rw [if_pos h, if_pos (by omega), show k + d - (f + d) = k - f by omega]
  · rw [if_neg h, if_neg (by omega)]
theorem win_get {t n b R f} (h1 : 1 ≤ f) (h2 : f ≤ R) : (win t n b R).getD (R - f) none = oS b (Z t (n + 1) f) := by
  unfold win
  rw [List.getD_eq_getElem?_getD, List.getElem?_map, List.getElem?_range (by omega)]
  show oS b (Z t (n + 1 + (R - f)) R) = _
  have : Z t (n + 1 + (R - f)) (f + (R - f)) = Z t (n + 1) f := Z_add
  rw [show f + (R - f) = R by omega] at this
  rw [this]
theorem cell_sub (i : Nat) (b : Int) : ∀ o : OI, cell i (oS b o) = (cell i o).map fun x => x - b
  | none => rfl
  | some x => by show [x - b + i + 1] = [x + i + 1 - b]; congr 1; omega
theorem candW_win {t n b R} : ∀ (i : Nat) (l : List Nat), (∀ f ∈ l, 1 ≤ f ∧ f ≤ R) → candW (win t n b R) i l = (cands t (n + 1) i l).map fun x => x - b
  | _, [], _ => rfl
  | i, f :: r, h => by
    have hf := h f List.mem_cons_self
    rw [candW, cands, win_len, win_get hf.1 hf.2, cell_sub, List.map_append, candW_win (i + 1) r fun g hg => h g (List.mem_cons_of_mem _ hg)]
theorem foldl_sub (b : Int) : ∀ (xs : List Int) (x : Int), (xs.map fun y => y - b).foldl min (x - b) = xs.foldl min x - b
  | [], _ => rfl
  | y :: ys, x => by
    rw [List.map_cons, List.foldl_cons, List.foldl_cons, show min (x - b) (y - b) = min x y - b by omega]
    exact foldl_sub b ys _
theorem minL_sub (b : Int) : ∀ l : List Int, minL (l.map fun x => x - b) = oS b (minL l)
  | [] => rfl
  | x :: xs => congrArg some (foldl_sub b xs x)
theorem win_next {t n b R} (hR : 1 ≤ R) : (win t n b R).drop 1 ++ [oS b (t (n + 1))] = win t (n + 1) b R := by
  refine List.ext_getElem? fun j => ?_
  unfold win
  by_cases h : j + 1 < R
  · rw [List.getElem?_append_left (by rw [List.length_drop, List.length_map, List.length_range]; omega), List.getElem?_drop, List.getElem?_map, List.getElem?_range (by omega), List.getElem?_map, List.getElem?_range (by omega)]
    show some (oS b (Z t (n + 1 + (1 + j)) R)) = some (oS b (Z t (n + 1 + 1 + j) R))
    rw [show n + 1 + (1 + j) = n + 1 + 1 + j by omega]
  · by_cases e : j + 1 = R
    · rw [List.getElem?_append_right (by rw [List.length_drop, List.length_map, List.length_range]; omega), List.length_drop, List.length_map, List.length_range, show j - (R - 1) = 0 by omega, List.getElem?_map, List.getElem?_range (by omega)]
      show some (oS b (t (n + 1))) = some (oS b (Z t (n + 1 + 1 + j) R))
      unfold Z
      rw [if_pos (by omega), show n + 1 + 1 + j - R = n + 1 by omega]
    · rw [List.getElem?_eq_none (by rw [List.length_append, List.length_drop, List.length_map, List.length_range]; show R - 1 + 1 ≤ j; omega), List.getElem?_eq_none (by rw [List.length_map, List.length_range]; omega)]
theorem win_shift {t n b R} (c : Int) : (win t n b R).map (oS c) = win t n (b + c) R := by
  unfold win
  rw [List.map_map]
  refine List.map_congr_left fun i _ => ?_
  exact oS_oS b c _
def NN (w : List OI) : Prop := ∀ x, some x ∈ w → 0 ≤ x
/-! ### the walk -/
structure St where
  n : Nat
  b : Int
  w : List OI
  l : Int
def somes (w : List OI) : List Int := w.filterMap id
def tickS (line gone : List Nat) (s : St) : OI := if s.n + 1 ∈ gone then none else minL (candW s.w 0 line)
def lastS (l b : Int) : OI → Int
  | some x => if b + x > l then b + x else l
  | none => l
def normS (n : Nat) (b : Int) (w : List OI) (l : Int) : OI → St
  | some c => ⟨n, b + c, w.map (oS c), l⟩
  | none => ⟨n, b, w, l⟩
def stepS (line gone : List Nat) (s : St) : St :=
  normS (s.n + 1) s.b (s.w.drop 1 ++ [tickS line gone s]) (lastS s.l s.b (tickS line gone s)) (minL (somes (s.w.drop 1 ++ [tickS line gone s])))
structure Good (line : List Nat) (R : Nat) : Prop where
  r : 1 ≤ R
  f : ∀ f ∈ line, 1 ≤ f ∧ f ≤ R
def AllN (w : List OI) : Prop := ∀ o ∈ w, o = none
structure Inv (line gone : List Nat) (R : Nat) (s : St) : Prop where
  w : s.w = win (T line gone) s.n s.b R
  nn : NN s.w
  nz : AllN s.w ∨ some 0 ∈ s.w
  bt : ∃ j, j ≤ s.n ∧ T line gone j = some s.b
/-- who is in a window was told -/
theorem win_mem {t : Nat → OI} {n R : Nat} {b x : Int} (h : some x ∈ win t n b R) : ∃ j, j ≤ n ∧ t j = some (b + x) := by
  unfold win at h
  obtain ⟨i, hi, e⟩ := List.mem_map.mp h
  have hi := List.mem_range.mp hi
  unfold Z at e
  by_cases hr : R ≤ n + 1 + i
  · rw [if_pos hr] at e
    refine ⟨n + 1 + i - R, by omega, ?_⟩
    cases e2 : t (n + 1 + i - R) with
    | none => rw [e2] at e; cases e
    | some y =>
      rw [e2] at e
      have : y - b = x := Option.some.inj e
      rw [show b + x = y by omega]
  · rw [if_neg hr] at e; cases e
theorem minL_mem : ∀ {l : List Int} {c : Int}, minL l = some c → c ∈ l ∧ ∀ x ∈ l, c ≤ x
  | [], _, h => by cases h
  | x :: xs, c, h => by
    have h : xs.foldl min x = c := Option.some.inj h
    have key : ∀ (xs : List Int) (x : Int), (xs.foldl min x = x ∨ xs.foldl min x ∈ xs) ∧ xs.foldl min x ≤ x ∧ ∀ y ∈ xs, xs.foldl min x ≤ y := by
      intro xs
      induction xs with
      | nil => intro x; exact ⟨.inl rfl, Int.le_refl _, fun y hy => nomatch hy⟩
      | cons z zs ih =>
        intro x
        rw [List.foldl_cons]
        obtain ⟨a, b, d⟩ := ih (min x z)
        refine ⟨?_, by omega, fun y hy => ?_⟩
        · rcases a with a | a
          · rw [a]
            by_cases hz : x ≤ z
            · exact .inl (by omega)
            · exact .inr (by rw [show min x z = z by omega]; exact List.mem_cons_self)
          · exact .inr (List.mem_cons_of_mem _ a)
        · rcases List.mem_cons.mp hy with rfl | hy
          · omega
          · exact d y hy
    obtain ⟨a, b, d⟩ := key xs x
    rw [h] at a b d
    refine ⟨?_, fun y hy => ?_⟩
    · rcases a with a | a
      · rw [a]; exact List.mem_cons_self
      · exact List.mem_cons_of_mem _ a
    · rcases List.mem_cons.mp hy with rfl | hy
      · exact b
      · exact d y hy
theorem minL_none : ∀ {l : List Int}, minL l = none → l = []
  | [], _ => rfl
  | x :: xs, h => by cases h
theorem mem_somes {w : List OI} {x : Int} : x ∈ somes w ↔ some x ∈ w := by unfold somes; simp
theorem candW_pos {w : List OI} (h : NN w) : ∀ (i : Nat) (l : List Nat) (x : Int), x ∈ candW w i l → 1 ≤ x
  | _, [], _, hx => nomatch hx
  | i, f :: r, x, hx => by
    rw [candW, List.mem_append] at hx
    rcases hx with hx | hx
    · cases e : w.getD (w.length - f) none with
      | none => rw [e] at hx; cases hx
      | some y =>
        rw [e] at hx
        have : x = y + i + 1 := by simpa [cell] using hx
        have hy : some y ∈ w := by
          rw [List.getD_eq_getElem?_getD] at e
          cases e2 : w[w.length - f]? with
          | none => rw [e2] at e; cases e
          | some o =>
            rw [e2] at e
            have : o = some y := e
            rw [← this]; exact List.mem_of_getElem? e2
        have := h y hy
        omega
    · exact candW_pos h (i + 1) r x hx
section
variable {line gone : List Nat} {R : Nat} {s : St}
theorem tick_eq (g : Good line R) (I : Inv line gone R s) : tickS line gone s = oS s.b (T line gone (s.n + 1)) := by
  unfold tickS
  rw [T_succ fun f hf => (g.f f hf).1]
  unfold nxt
  by_cases h : s.n + 1 ∈ gone
  · rw [if_pos h, if_pos h]; rfl
  · rw [if_neg h, if_neg h, I.w, candW_win 0 line g.f, minL_sub]
theorem lastS_eq (l b : Int) : ∀ o : OI, lastS l b (oS b o) = match o with
    | some x => max l x
    | none => l
  | none => rfl
  | some x => by
    show (if b + (x - b) > l then b + (x - b) else l) = max l x
    rw [show b + (x - b) = x by omega]
    split <;> omega
structure Stepped (line gone : List Nat) (R : Nat) (s s' : St) : Prop where
  I : Inv line gone R s'
  n : s'.n = s.n + 1
  b : s.b ≤ s'.b
  l : s'.l = match T line gone (s.n + 1) with
    | some x => max s.l x
    | none => s.l
theorem step_inv (g : Good line R) (I : Inv line gone R s) : Stepped line gone R s (stepS line gone s) := by
  have et := tick_eq g I
  have ew : s.w.drop 1 ++ [tickS line gone s] = win (T line gone) (s.n + 1) s.b R := by
    rw [et, I.w]; exact win_next g.r
  have hn : NN (s.w.drop 1 ++ [tickS line gone s]) := by
    intro x hx
    rw [List.mem_append] at hx
    rcases hx with hx | hx
    · exact I.nn x (List.mem_of_mem_drop hx)
    · have hx : some x = tickS line gone s := by simpa using hx
      unfold tickS at hx
      split at hx
      · cases hx
      · have := candW_pos I.nn 0 line x (minL_mem hx.symm).1
        omega
  have el : lastS s.l s.b (tickS line gone s) = match T line gone (s.n + 1) with
    | some x => max s.l x
    | none => s.l := by rw [et]; exact lastS_eq _ _ _
  unfold stepS
  generalize s.w.drop 1 ++ [tickS line gone s] = w at ew hn
  cases e : minL (somes w) with
  | none =>
    refine ⟨⟨ew, hn, .inl fun o ho => ?_, ?_⟩, rfl, Int.le_refl _, el⟩
    · cases o with
      | none => rfl
      | some x =>
        have q : x ∈ somes w := mem_somes.mpr ho
        rw [minL_none e] at q
        cases q
    · obtain ⟨j, hj, h⟩ := I.bt
      exact ⟨j, Nat.le_succ_of_le hj, h⟩
  | some c =>
    obtain ⟨h1, h2⟩ := minL_mem e
    have h0 := hn c (mem_somes.mp h1)
    have ew2 : w.map (oS c) = win (T line gone) (s.n + 1) (s.b + c) R := by rw [ew]; exact win_shift c
    refine ⟨⟨ew2, ?_, .inr ?_, ?_⟩, rfl, ?_, el⟩
    · intro x hx
      obtain ⟨o, ho, e2⟩ := List.mem_map.mp hx
      cases o with
      | none => cases e2
      | some y =>
        have := h2 y (mem_somes.mpr ho)
        have : y - c = x := Option.some.inj e2
        omega
    · refine List.mem_map.mpr ⟨some c, mem_somes.mp h1, ?_⟩
      show some (c - c) = some 0
      congr 1; omega
    · have q := mem_somes.mp h1
      rw [ew] at q
      exact win_mem q
    · show s.b ≤ s.b + c
      omega
theorem candW_none {w : List OI} (h : AllN w) : ∀ (i : Nat) (l : List Nat), candW w i l = []
  | _, [] => rfl
  | i, f :: r => by
    have e : w.getD (w.length - f) none = none := by
      rw [List.getD_eq_getElem?_getD]
      cases e2 : w[w.length - f]? with
      | none => rfl
      | some o => exact h o (List.mem_of_getElem? e2)
    rw [candW, e, candW_none h (i + 1) r]
    rfl
/-- nobody told among the last ones: nobody any more -/
theorem step_none (h : AllN s.w) : (stepS line gone s).b = s.b ∧ AllN (stepS line gone s).w := by
  have et : tickS line gone s = none := by
    unfold tickS
    split
    · rfl
    · rw [candW_none h]; rfl
  have hw : AllN (s.w.drop 1 ++ [none]) := fun o ho => by
    rcases List.mem_append.mp ho with z | z
    · exact h o (List.mem_of_mem_drop z)
    · simpa using z
  have hm : minL (somes (s.w.drop 1 ++ [none])) = none := by
    cases e : minL (somes (s.w.drop 1 ++ [none])) with
    | none => rfl
    | some c =>
      have q := mem_somes.mp (minL_mem e).1
      cases hw _ q
  unfold stepS
  rw [et, hm]
  exact ⟨rfl, hw⟩
theorem mem_cands {t : Nat → OI} {k : Nat} {x : Int} : ∀ {i : Nat} {l : List Nat}, x ∈ cands t k i l → ∃ (f : Nat) (d : Nat) (y : Int), f ∈ l ∧ i ≤ d ∧ d < i + l.length ∧ Z t k f = some y ∧ x = y + d + 1
  | _, [], h => nomatch h
  | i, f :: r, h => by
    rw [cands, List.mem_append] at h
    rcases h with h | h
    · cases e : Z t k f with
      | none => rw [e] at h; cases h
      | some y =>
        rw [e] at h
        have : x = y + i + 1 := by simpa [cell] using h
        exact ⟨f, i, y, List.mem_cons_self, Nat.le_refl _, by rw [List.length_cons]; omega, e, this⟩
    · obtain ⟨f', d, y, h1, h2, h3, h4, h5⟩ := mem_cands h
      exact ⟨f', d, y, List.mem_cons_of_mem _ h1, by omega, by rw [List.length_cons]; omega, h4, h5⟩
theorem T_bound (hl : ∀ f ∈ line, 1 ≤ f) : ∀ (m k : Nat) (x : Int), k < m → T line gone k = some x → 0 ≤ x ∧ x ≤ (line.length * k : Nat)
  | 0, _, _, h, _ => absurd h (Nat.not_lt_zero _)
  | m + 1, 0, x, _, e => by
    rw [T_zero] at e
    cases e
    exact ⟨Int.le_refl _, by simp⟩
  | m + 1, k + 1, x, h, e => by
    rw [T_succ hl] at e
    unfold nxt at e
    split at e
    · cases e
    · obtain ⟨f, d, y, h1, _, h3, h4, h5⟩ := mem_cands (minL_mem e).1
      have hf := hl f h1
      unfold Z at h4
      split at h4
      · obtain ⟨a, b⟩ := T_bound hl m (k + 1 - f) y (by omega) h4
        have c : line.length * (k + 1 - f) ≤ line.length * k := Nat.mul_le_mul_left _ (by omega)
        have c2 : line.length * (k + 1) = line.length * k + line.length := Nat.mul_succ _ _
        refine ⟨by omega, by omega⟩
      · cases h4
/-! ### rounds -/
def oA (d : Int) : OI → OI := Option.map fun x => x + d
theorem cell_add (i : Nat) (d : Int) : ∀ o : OI, cell i (oA d o) = (cell i o).map fun x => x + d
  | none => rfl
  | some x => by show [x + d + i + 1] = [x + i + 1 + d]; congr 1; omega
theorem cands_add {t t' : Nat → OI} {k k' : Nat} {d : Int} : ∀ (i : Nat) (l : List Nat), (∀ f ∈ l, Z t k f = oA d (Z t' k' f)) → cands t k i l = (cands t' k' i l).map fun x => x + d
  | _, [], _ => rfl
  | i, f :: r, h => by
    rw [cands, cands, h f List.mem_cons_self, cell_add, List.map_append, cands_add (i + 1) r fun g hg => h g (List.mem_cons_of_mem _ hg)]
theorem minL_add (d : Int) (l : List Int) : minL (l.map fun x => x + d) = oA d (minL l) := by
  have e : (l.map fun x => x + d) = l.map fun x => x - (-d) := List.map_congr_left fun x _ => by omega
  rw [e, minL_sub]
  cases minL l with
  | none => rfl
  | some x => show some (x - (-d)) = some (x + d); congr 1; omega
theorem oS_oA {b c : Int} {o o' : OI} (h : oS b o = oS c o') : o = oA (b - c) o' := by
  cases o with
  | none =>
    cases o' with
    | none => rfl
    | some y => cases h
  | some x =>
    cases o' with
    | none => cases h
    | some y =>
      have : x - b = y - c := Option.some.inj h
      show some x = some (y + (b - c))
      congr 1; omega
theorem oA_oS {b c : Int} {o o' : OI} (h : o = oA (b - c) o') : oS b o = oS c o' := by
  subst h
  cases o' with
  | none => rfl
  | some y => show some (y + (b - c) - b) = some (y - c); congr 1; omega
/-- the same window twice: the same goes on -/
theorem again (g : Good line R) {n0 n goal : Nat} {b0 b : Int} (h0 : n0 ≤ n) (hw : win (T line gone) n b R = win (T line gone) n0 b0 R) (ha : ∀ k, n0 < k → k < goal → k ∉ gone) :
    ∀ j, n + j < goal → ∀ f, 1 ≤ f → f ≤ R → Z (T line gone) (n + j + 1) f = oA (b - b0) (Z (T line gone) (n0 + j + 1) f)
  | 0, _, f, h1, h2 => by
    have e : (win (T line gone) n b R).getD (R - f) none = (win (T line gone) n0 b0 R).getD (R - f) none := congrArg (fun w => w.getD (R - f) none) hw
    rw [win_get h1 h2, win_get h1 h2] at e
    exact oS_oA e
  | j + 1, hj, f, h1, h2 => by
    have ih := again g h0 hw ha j (by omega)
    by_cases hf : f = 1
    · subst hf
      have e : ∀ p : Nat, Z (T line gone) (p + (j + 1) + 1) 1 = T line gone (p + j + 1) := fun p => by
        unfold Z
        rw [if_pos (by omega)]
        congr 1
      rw [e, e, T_succ (fun f hf => (g.f f hf).1), T_succ (fun f hf => (g.f f hf).1)]
      unfold nxt
      rw [if_neg (ha _ (by omega) (by omega)), if_neg (ha _ (by omega) (by omega)), cands_add 0 line fun f hf => ih f (g.f f hf).1 (g.f f hf).2, minL_add]
    · obtain ⟨f', rfl⟩ : ∃ f', f = f' + 1 := ⟨f - 1, by omega⟩
      have e : ∀ p : Nat, Z (T line gone) (p + (j + 1) + 1) (f' + 1) = Z (T line gone) (p + j + 1) f' := fun p => by
        rw [show p + (j + 1) + 1 = (p + j + 1) + 1 by omega]
        exact Z_add
      rw [e, e]
      exact ih f' (by omega) (by omega)
theorem again_win (g : Good line R) {n0 n goal : Nat} {b0 b : Int} (h0 : n0 ≤ n) (hw : win (T line gone) n b R = win (T line gone) n0 b0 R) (ha : ∀ k, n0 < k → k < goal → k ∉ gone) (c : Int)
    (j : Nat) (hj : n + j < goal) : win (T line gone) (n + j) (c + (b - b0)) R = win (T line gone) (n0 + j) c R := by
  have k := again g h0 hw ha j hj
  refine List.ext_getElem? fun i => ?_
  by_cases hi : i < R
  · have e : ∀ (p : Nat) (c : Int), (win (T line gone) p c R)[i]? = some (oS c (Z (T line gone) (p + 1) (R - i))) := fun p c => by
      unfold win
      rw [List.getElem?_map, List.getElem?_range hi]
      show some (oS c (Z (T line gone) (p + 1 + i) R)) = _
      have z : Z (T line gone) (p + 1 + i) (R - i + i) = Z (T line gone) (p + 1) (R - i) := Z_add
      rw [show R - i + i = R by omega] at z
      rw [z]
    rw [e, e, k (R - i) (by omega) (by omega)]
    refine congrArg some (oA_oS ?_)
    rw [show c + (b - b0) - c = b - b0 by omega]
  · rw [List.getElem?_eq_none (by rw [win_len]; omega), List.getElem?_eq_none (by rw [win_len]; omega)]
theorem again_T (g : Good line R) {n0 n goal : Nat} {b0 b : Int} (h0 : n0 ≤ n) (hw : win (T line gone) n b R = win (T line gone) n0 b0 R) (ha : ∀ k, n0 < k → k < goal → k ∉ gone)
    (j : Nat) (hj : n + j < goal) : T line gone (n + j) = oA (b - b0) (T line gone (n0 + j)) := by
  have k := again g h0 hw ha j hj 1 (Nat.le_refl _) g.r
  unfold Z at k
  rw [if_pos (by omega), if_pos (by omega)] at k
  exact k
/-- r rounds on -/
theorem rounds_win (g : Good line R) {n0 size goal : Nat} {b0 b : Int} (hw : win (T line gone) (n0 + size) b R = win (T line gone) n0 b0 R) (ha : ∀ k, n0 < k → k < goal → k ∉ gone) :
    ∀ r : Nat, n0 + size + r * size < goal → win (T line gone) (n0 + size + r * size) (b + r * (b - b0)) R = win (T line gone) n0 b0 R
  | 0, _ => by
    rw [Nat.zero_mul, Nat.add_zero, show b + ((0 : Nat) : Int) * (b - b0) = b by simp]
    exact hw
  | r + 1, h => by
    have e : (r + 1) * size = r * size + size := by rw [Nat.add_mul, Nat.one_mul]
    have ih := rounds_win g hw ha r (by omega)
    have q := again_win g (n0 := n0) (n := n0 + size + r * size) (by omega) ih ha b size (by omega)
    rw [hw, show n0 + size + r * size + size = n0 + size + (r + 1) * size by omega] at q
    rw [← q]
    congr 1
    have : ((r + 1 : Nat) : Int) * (b - b0) = (r : Int) * (b - b0) + (b - b0) := by
      rw [show ((r + 1 : Nat) : Int) = (r : Int) + 1 by omega, Int.add_mul, Int.one_mul]
    omega
theorem rounds_T (g : Good line R) {n0 size goal : Nat} {b0 b : Int} (hw : win (T line gone) (n0 + size) b R = win (T line gone) n0 b0 R) (ha : ∀ k, n0 < k → k < goal → k ∉ gone) (p : Nat) (hp : n0 ≤ p) :
    ∀ r : Nat, p + r * size < goal → T line gone (p + r * size) = oA (r * (b - b0)) (T line gone p)
  | 0, _ => by
    rw [Nat.zero_mul, Nat.add_zero]
    cases T line gone p with
    | none => rfl
    | some x => show some x = some (x + ((0 : Nat) : Int) * (b - b0)); congr 1; simp
  | r + 1, h => by
    have e : (r + 1) * size = r * size + size := by rw [Nat.add_mul, Nat.one_mul]
    have ih := rounds_T g hw ha p hp r (by omega)
    have q := again_T g (n0 := n0) (n := n0 + size) (by omega) hw ha (p - n0 + r * size) (by omega)
    rw [show n0 + size + (p - n0 + r * size) = p + (r + 1) * size by omega, show n0 + (p - n0 + r * size) = p + r * size by omega, ih] at q
    rw [q]
    cases T line gone p with
    | none => rfl
    | some x =>
      show some (x + r * (b - b0) + (b - b0)) = some (x + ((r + 1 : Nat) : Int) * (b - b0))
      have : ((r + 1 : Nat) : Int) * (b - b0) = (r : Int) * (b - b0) + (b - b0) := by
        rw [show ((r + 1 : Nat) : Int) = (r : Int) + 1 by omega, Int.add_mul, Int.one_mul]
      congr 1; omega
/-! ### the greatest so far -/
/-- l is told by somebody up to n, and none less than those that are looked at -/
def LM (line gone : List Nat) (n : Nat) (P : Nat → Prop) (l : Int) : Prop := (∃ j, j ≤ n ∧ T line gone j = some l) ∧ ∀ j, P j → ∀ x, T line gone j = some x → x ≤ l
theorem LM.step {n : Nat} {P : Nat → Prop} {l : Int} (h : LM line gone n P l) : LM line gone (n + 1) (fun j => P j ∨ j = n + 1) (match T line gone (n + 1) with
    | some x => max l x
    | none => l) := by
  obtain ⟨⟨j, hj, e⟩, h2⟩ := h
  cases e1 : T line gone (n + 1) with
  | none =>
    refine ⟨⟨j, by omega, e⟩, fun i hi x ex => ?_⟩
    rcases hi with hi | rfl
    · exact h2 i hi x ex
    · rw [e1] at ex; cases ex
  | some y =>
    refine ⟨?_, fun i hi x ex => ?_⟩
    · by_cases hy : l ≤ y
      · exact ⟨n + 1, Nat.le_refl _, by rw [e1]; show some y = some (max l y); congr 1; omega⟩
      · exact ⟨j, by omega, by rw [e]; show some l = some (max l y); congr 1; omega⟩
    · show x ≤ max l y
      rcases hi with hi | rfl
      · have := h2 i hi x ex; omega
      · rw [e1] at ex; have : y = x := Option.some.inj ex; omega
theorem LM.sub {n : Nat} {P Q : Nat → Prop} {l : Int} (h : LM line gone n P l) (hq : ∀ j, Q j → P j) : LM line gone n Q l := ⟨h.1, fun j hj => h.2 j (hq j hj)⟩
/-- what rounds passed over is no greater than what they bring again -/
theorem LM.rounds (g : Good line R) {n0 size goal e : Nat} {b0 b : Int} {r : Nat} {l : Int} (hs : 0 < size) (hb : b0 ≤ b) (hw : win (T line gone) (n0 + size) b R = win (T line gone) n0 b0 R) (ha : ∀ k, n0 < k → k < goal → k ∉ gone)
    (he : e < goal) (hr : r = 0 ∨ n0 + size + r * size + size ≤ e) (h : LM line gone e (fun j => j ≤ n0 + size ∨ (n0 + size + r * size < j ∧ j ≤ e)) l) : LM line gone e (fun j => j ≤ e) l := by
  refine ⟨h.1, fun j hj x ex => ?_⟩
  by_cases h1 : j ≤ n0 + size
  · exact h.2 j (.inl h1) x ex
  · by_cases h2 : n0 + size + r * size < j
    · exact h.2 j (.inr ⟨h2, hj⟩) x ex
    · rcases hr with rfl | hr
      · rw [Nat.zero_mul] at h2; omega
      · -- the same one a few rounds on
        have key : ∀ d : Nat, ∀ j, j ≤ n0 + size + r * size → n0 + size + r * size - j < d → n0 < j → ∀ x, T line gone j = some x → x ≤ l := by
          intro d
          induction d with
          | zero => intro j _ hd; omega
          | succ d ih =>
            intro j h3 h4 h5 x ex
            have q := rounds_T g hw ha j (by omega) 1 (by omega)
            rw [Nat.one_mul, ex] at q
            have q : T line gone (j + size) = some (x + 1 * (b - b0)) := q
            have : x + 1 * (b - b0) ≤ l := by
              by_cases h6 : n0 + size + r * size < j + size
              · exact h.2 (j + size) (.inr ⟨h6, by omega⟩) _ q
              · exact ih (j + size) (by omega) (by omega) (by omega) _ q
            omega
        exact key (n0 + size + r * size - j + 1) j (by omega) (by omega) (by omega) x ex
end
end SP

/-! G23: denotations, evaluated: flat data, loops. -/
namespace G
open PySem PySem.Spec PyProof.Rows SP
open L2 hiding St Inv Binds
def oD : OI → PyData
  | none => .none
  | some x => .int x
def wD (w : List OI) : PyData := .tuple (w.map oD)
def lN (l : List Nat) : List PyData := l.map fun (f : Nat) => PyData.int (f : Int)
def lD (l : List Nat) : PyData := .tuple (lN l)
/-! ### flat data -/
def flat : PyData → Bool
  | .none => true
  | .bool _ => true
  | .int _ => true
  | .str _ => true
  | _ => false
theorem flat_plain : ∀ {d : PyData}, flat d = true → PyData.plain d = true ∧ PyData.depth d = 0
  | .none, _ => ⟨rfl, rfl⟩
  | .bool _, _ => ⟨rfl, rfl⟩
  | .int _, _ => ⟨rfl, rfl⟩
  | .str _, _ => ⟨rfl, rfl⟩
  | .list _, h => by cases h
  | .tuple _, h => by cases h
  | .dict _, h => by cases h
theorem flat_all : ∀ {ds : List PyData}, (∀ d ∈ ds, flat d = true) → PyData.plainAll ds = true ∧ PyData.depthAll ds = 0
  | [], _ => ⟨rfl, rfl⟩
  | d :: ds, h => by
    obtain ⟨a, b⟩ := flat_plain (h d List.mem_cons_self)
    obtain ⟨a', b'⟩ := flat_all fun e he => h e (List.mem_cons_of_mem _ he)
    refine ⟨?_, ?_⟩
    · show (PyData.plain d && PyData.plainAll ds) = true
      rw [a, a']; rfl
    · show max (PyData.depth d) (PyData.depthAll ds) = 0
      rw [b, b']; rfl
theorem okD_flat {d : PyData} (h : flat d = true) : okD d = true := by
  unfold okD; rw [(flat_plain h).1, (flat_plain h).2]; rfl
theorem okD_list {ds : List PyData} (h : ∀ d ∈ ds, flat d = true) : okD (.list ds) = true := by
  unfold okD
  have h1 : PyData.plain (.list ds) = true := (flat_all h).1
  have h2 : PyData.depth (.list ds) = 1 := by show PyData.depthAll ds + 1 = 1; rw [(flat_all h).2]
  rw [h1, h2]; rfl
theorem okD_tup {ds : List PyData} (h : ∀ d ∈ ds, flat d = true) : okD (.tuple ds) = true := by
  unfold okD
  have h1 : PyData.plain (.tuple ds) = true := (flat_all h).1
  have h2 : PyData.depth (.tuple ds) = 1 := by show PyData.depthAll ds + 1 = 1; rw [(flat_all h).2]
  rw [h1, h2]; rfl
theorem flat_ints (ns : List Int) : ∀ d ∈ ns.map PyData.int, flat d = true := fun d h => by
  obtain ⟨n, _, rfl⟩ := List.mem_map.mp h; rfl
theorem flat_lN (l : List Nat) : ∀ d ∈ lN l, flat d = true := fun d h => by
  obtain ⟨n, _, rfl⟩ := List.mem_map.mp h; rfl
theorem flat_oD (o : OI) : flat (oD o) = true := by cases o <;> rfl
theorem flat_w (w : List OI) : ∀ d ∈ w.map oD, flat d = true := fun d h => by
  obtain ⟨n, _, rfl⟩ := List.mem_map.mp h; exact flat_oD n
theorem lN_ints (l : List Nat) : lN l = (l.map fun (f : Nat) => (f : Int)).map PyData.int := by unfold lN; rw [List.map_map]; rfl
theorem okS_ints (ns : List Int) : okS (ns.map .int) = true := by
  unfold okS; rw [plain_ints, depth_ints]; rfl
theorem like_ints (ns : List Int) : likeAll (ns.map .int) = true := by
  unfold likeAll
  rw [Bool.and_eq_true, List.all_eq_true, List.all_eq_true]
  refine ⟨fun x hx => List.all_eq_true.mpr fun y hy => ?_, fun x hx => ?_⟩
  · obtain ⟨n, _, rfl⟩ := List.mem_map.mp hx
    obtain ⟨m, _, rfl⟩ := List.mem_map.mp hy
    rfl
  · obtain ⟨n, _, rfl⟩ := List.mem_map.mp hx; rfl
theorem dMin_ints (n : Int) (ns : List Int) : dMin [.list ((n :: ns).map .int)] = some (.int (ns.foldl min n)) := by
  show (if okS ((n :: ns).map PyData.int) = true ∧ likeAll ((n :: ns).map PyData.int) = true then some (PySem.W.minD (.int n) (ns.map .int)) else none) = _
  rw [if_pos ⟨okS_ints _, like_ints _⟩, PySem.W.minD_ints]
theorem dMax_ints (n : Int) (ns : List Int) : dMax [.list ((n :: ns).map .int)] = some (.int (ns.foldl max n)) := by
  show (if okS ((n :: ns).map PyData.int) = true ∧ likeAll ((n :: ns).map PyData.int) = true then some (PySem.W.maxD (.int n) (ns.map .int)) else none) = _
  rw [if_pos ⟨okS_ints _, like_ints _⟩, PySem.W.maxD_ints]
theorem dMaxT_ints (n : Int) (ns : List Int) : dMax [.tuple ((n :: ns).map .int)] = some (.int (ns.foldl max n)) := by
  show (if okS ((n :: ns).map PyData.int) = true ∧ likeAll ((n :: ns).map PyData.int) = true then some (PySem.W.maxD (.int n) (ns.map .int)) else none) = _
  rw [if_pos ⟨okS_ints _, like_ints _⟩, PySem.W.maxD_ints]
theorem eqv_int (x y : Int) : PyData.eqv (.int x) (.int y) = (x == y) := by kernel_rfl
theorem any_nat (k : Nat) : ∀ l : List Nat, ((lN l).any fun y => PyData.eqv y (.int (k : Int))) = decide (k ∈ l)
  | [] => rfl
  | f :: r => by
    show (PyData.eqv (.int (f : Int)) (.int (k : Int)) || (lN r).any fun y => PyData.eqv y (.int (k : Int))) = _
    rw [eqv_int, any_nat k r, Bool.eq_iff_iff, Bool.or_eq_true, beq_iff_eq, decide_eq_true_eq, decide_eq_true_eq, List.mem_cons]
    constructor
    · rintro (h | h)
      · exact .inl (by omega)
      · exact .inr h
    · rintro (h | h)
      · exact .inl (by omega)
      · exact .inr h
theorem dIn_nat (k : Nat) (l : List Nat) : dIn (.int (k : Int)) (lD l) = some (.bool (decide (k ∈ l))) := by
  show (if okD (.int (k : Int)) = true ∧ okD (.tuple (lN l)) = true then some (PyData.bool ((lN l).any fun y => PyData.eqv y (.int (k : Int)))) else none) = _
  rw [if_pos ⟨okD_flat rfl, okD_tup (flat_lN l)⟩, any_nat]
theorem dNotIn_nat (k : Nat) (l : List Nat) : dNotIn (.int (k : Int)) (lD l) = some (.bool (!decide (k ∈ l))) := by
  show (if okD (.int (k : Int)) = true ∧ okD (.tuple (lN l)) = true then some (PyData.bool (!(lN l).any fun y => PyData.eqv y (.int (k : Int)))) else none) = _
  rw [if_pos ⟨okD_flat rfl, okD_tup (flat_lN l)⟩, any_nat]
/-! ### places -/
theorem dIx_neg {ds : List PyData} {f : Nat} (h1 : 1 ≤ f) (h2 : f ≤ ds.length) : dIx (.tuple ds) (.int (-(f : Int))) = some (ds.getD (ds.length - f) .none) := by
  show atI ds _ = _
  unfold atI ixN
  rw [if_neg (by omega), if_pos (by omega)]
  have e : (-(f : Int) + (ds.length : Int)).toNat = ds.length - f := by omega
  have hl : ds.length - f < ds.length := by omega
  rw [e]
  simp [List.getD_eq_getElem?_getD, hl]
theorem dIx_nat {ds : List PyData} {k : Nat} (h2 : k < ds.length) : dIx (.list ds) (.int (k : Int)) = some (ds.getD k .none) := by
  show atI ds _ = _
  unfold atI ixN
  rw [if_pos (by omega), if_pos (by omega)]
  simp [List.getD_eq_getElem?_getD, h2]
theorem dSl_tail (ds : List PyData) : dSl (.tuple ds) (some 1) none = some (.tuple (ds.drop 1)) := by
  show some (PyData.tuple ((ds.drop (HT.sIx ds.length 0 (some 1))).take (HT.sIx ds.length ds.length none - HT.sIx ds.length 0 (some 1)))) = _
  have h1 : HT.sIx ds.length 0 (some 1) = min 1 ds.length := HT.sIx_nat _ _ 1
  rw [h1, HT.sIx_none]
  congr 2
  cases ds with
  | nil => rfl
  | cons d ds =>
    rw [show min 1 (d :: ds).length = 1 by rw [List.length_cons]; omega, List.take_of_length_le (by rw [List.length_drop]; exact Nat.le_refl _)]
theorem dSlL_head (ds : List PyData) (k : Nat) : dSlL (.list ds) none (some (k : Int)) = some (.list (ds.take k)) := by
  show some (PyData.list ((ds.drop (HT.sIx ds.length 0 none)).take (HT.sIx ds.length ds.length (some (k : Int)) - HT.sIx ds.length 0 none))) = _
  rw [HT.sIx_nat, HT.sIx_none, List.drop_zero, Nat.sub_zero]
  congr 2
  by_cases h : k ≤ ds.length
  · rw [Nat.min_eq_left h]
  · rw [Nat.min_eq_right (by omega), List.take_of_length_le (Nat.le_refl _), List.take_of_length_le (by omega)]
/-! ### loops -/
theorem lc_go {α : Type} (u : α → PyData) (E : PyData → Ev) {g : TD} {ft : M Bool} {fe : M PyData} (p : α → Bool) (f : α → PyData) (hg : ∀ x d, g d (E x) = some (E d)) : ∀ (ds : List α),
    (∀ a ∈ ds, ft (E (u a)) = .ok (p a) (E (u a)) ∧ (p a = true → fe (E (u a)) = .ok (f a) (E (u a)))) → ∀ x, ∃ y, lcGo g ft fe (ds.map u) (E x) = some ((ds.filter p).map f, E y)
  | [], _, x => ⟨x, rfl⟩
  | a :: ds, h, x => by
    obtain ⟨h1, h2⟩ := h a List.mem_cons_self
    obtain ⟨y, hy⟩ := lc_go u E p f hg ds (fun b hb => h b (List.mem_cons_of_mem _ hb)) (u a)
    refine ⟨y, ?_⟩
    rw [List.map_cons, lcGo, hg]
    dsimp only
    rw [h1]
    dsimp only
    cases hp : p a with
    | false =>
      rw [if_neg Bool.false_ne_true, hy, List.filter_cons_of_neg (by rw [hp]; exact Bool.false_ne_true)]
    | true =>
      rw [if_pos rfl, h2 hp]
      dsimp only
      rw [hy, List.filter_cons_of_pos hp]
      rfl
theorem eLc_go {α : Type} (u : α → PyData) (E : PyData → Ev) (x0 : PyData) {vs : List Nat} {fi : MI} {g : TD} {ft : M Bool} {fe : M PyData} {ρ : Ev} (p : α → Bool) (f : α → PyData) (ds : List α) (hi : fi ρ = .ok (ds.map u) (E x0)) (hg : ∀ x d, g d (E x) = some (E d))
    (h : ∀ a ∈ ds, ft (E (u a)) = .ok (p a) (E (u a)) ∧ (p a = true → fe (E (u a)) = .ok (f a) (E (u a)))) (hr : ∀ y, rst (E x0) vs (E y) = E x0) (hl : ds.length ≤ sizeLine) :
    eLc vs fi g ft fe ρ = .ok (.list ((ds.filter p).map f)) (E x0) := by
  obtain ⟨y, hy⟩ := lc_go u E p f hg ds h x0
  unfold eLc
  rw [hi]
  dsimp only
  rw [hy]
  dsimp only
  rw [if_pos (by rw [List.length_map]; exact Nat.le_trans (List.length_filter_le ..) hl), hr]
theorem lc_go2 {α β : Type} (u : α → PyData) (v : α → β) (E : β → Ev) {g : TD} {ft : M Bool} {fe : M PyData} (p : α → Bool) (f : α → PyData) (hg : ∀ x a, g (u a) (E x) = some (E (v a))) : ∀ (ds : List α),
    (∀ a ∈ ds, ft (E (v a)) = .ok (p a) (E (v a)) ∧ (p a = true → fe (E (v a)) = .ok (f a) (E (v a)))) → ∀ x, ∃ y, lcGo g ft fe (ds.map u) (E x) = some ((ds.filter p).map f, E y)
  | [], _, x => ⟨x, rfl⟩
  | a :: ds, h, x => by
    obtain ⟨h1, h2⟩ := h a List.mem_cons_self
    obtain ⟨y, hy⟩ := lc_go2 u v E p f hg ds (fun b hb => h b (List.mem_cons_of_mem _ hb)) (v a)
    refine ⟨y, ?_⟩
    rw [List.map_cons, lcGo, hg]
    dsimp only
    rw [h1]
    dsimp only
    cases hp : p a with
    | false =>
      rw [if_neg Bool.false_ne_true, hy, List.filter_cons_of_neg (by rw [hp]; exact Bool.false_ne_true)]
    | true =>
      rw [if_pos rfl, h2 hp]
      dsimp only
      rw [hy, List.filter_cons_of_pos hp]
      rfl
theorem eLc_go2 {α β : Type} (u : α → PyData) (v : α → β) (E : β → Ev) (x0 : β) {vs : List Nat} {fi : MI} {g : TD} {ft : M Bool} {fe : M PyData} {ρ : Ev} (p : α → Bool) (f : α → PyData) (ds : List α) (hi : fi ρ = .ok (ds.map u) (E x0)) (hg : ∀ x a, g (u a) (E x) = some (E (v a)))
    (h : ∀ a ∈ ds, ft (E (v a)) = .ok (p a) (E (v a)) ∧ (p a = true → fe (E (v a)) = .ok (f a) (E (v a)))) (hr : ∀ y, rst (E x0) vs (E y) = E x0) (hl : ds.length ≤ sizeLine) :
    eLc vs fi g ft fe ρ = .ok (.list ((ds.filter p).map f)) (E x0) := by
  obtain ⟨y, hy⟩ := lc_go2 u v E p f hg ds h x0
  unfold eLc
  rw [hi]
  dsimp only
  rw [hy]
  dsimp only
  rw [if_pos (by rw [List.length_map]; exact Nat.le_trans (List.length_filter_le ..) hl), hr]
theorem asBls_true {α : Type} : ∀ l : List α, asBls (l.map fun _ => PyData.bool true) = some (l.map fun _ => true)
  | [] => rfl
  | a :: l => by
    show (asBls (l.map fun _ => PyData.bool true)).map (true :: ·) = _
    rw [asBls_true l]; rfl
theorem dAll_true {α : Type} (l : List α) : dAll [.list (l.map fun _ => PyData.bool true)] = some (.bool true) := by
  show (asBls (l.map fun _ => PyData.bool true)).map (fun bs => PyData.bool (bs.all id)) = _
  rw [asBls_true]
  show some (PyData.bool ((l.map fun _ => true).all id)) = _
  rw [List.all_eq_true.mpr]
  intro x hx
  obtain ⟨_, _, rfl⟩ := List.mem_map.mp hx
  rfl
theorem allI_ints : ∀ ns : List Int, allI (ns.map PyData.int) = some ns
  | [] => rfl
  | n :: ns => by
    show (allI (ns.map PyData.int)).map (n :: ·) = _
    rw [allI_ints ns]; rfl
theorem cntD_nodup : ∀ (ns seen : List Int), ns.Nodup → (∀ x ∈ ns, x ∉ seen) → cntD seen ns = ns.length
  | [], _, _, _ => rfl
  | n :: ns, seen, h, hs => by
    obtain ⟨h1, h2⟩ := List.nodup_cons.mp h
    rw [cntD, if_neg (hs n List.mem_cons_self), cntD_nodup ns (n :: seen) h2 (fun x hx z => ?_), List.length_cons]
    · omega
    · rcases List.mem_cons.mp z with rfl | z
      · exact h1 hx
      · exact hs x (List.mem_cons_of_mem _ hx) z
/-- sorting, then picking: picking, then sorting -/
theorem srt_pick (p : PyData → Bool) (l : List PyData) : (srtD l).filter p = srtD (l.filter p) := by
  rw [srt_eq (l.filter p)]
  refine PySem.W.sort_unique leD_total ((srt_sorted l).filter _) fun c => ?_
  rw [List.filter_filter, List.filter_filter]
  have e : ∀ (q r : PyData → Bool) (l : List PyData), l.filter (fun a => q a && r a) = (l.filter q).filter r := fun q r l => by
    rw [List.filter_filter]
    refine congrFun (congrArg _ ?_) _
    funext a
    exact Bool.and_comm _ _
  rw [e, e, srt_filter]
theorem mem_srt (d : PyData) : ∀ l : List PyData, d ∈ srtD l ↔ d ∈ l
  | [] => Iff.rfl
  | x :: r => by
    show d ∈ insD x (srtD r) ↔ _
    rw [mem_ins, mem_srt d r, List.mem_cons]
theorem okSort_ints (ns : List Int) (h : ns.length ≤ 1000) : okSort (ns.map .int) = true := by
  unfold okSort
  rw [okS_ints]
  have a : ((ns.map PyData.int).all fun x => (ns.map PyData.int).all fun y => PySem.W.alike x y) = true := by
    rw [List.all_eq_true]
    intro x hx
    rw [List.all_eq_true]
    intro y hy
    obtain ⟨n, _, rfl⟩ := List.mem_map.mp hx
    obtain ⟨m, _, rfl⟩ := List.mem_map.mp hy
    rfl
  have b : ((ns.map PyData.int).all fun d => isNn d && !isTup d) = true := by
    rw [List.all_eq_true]
    intro x hx
    obtain ⟨n, _, rfl⟩ := List.mem_map.mp hx
    rfl
  rw [a, b, Bool.or_true, decide_eq_true (by rw [List.length_map, sizeLine_eq]; omega)]
  rfl
theorem dSort_ints (ns : List Int) (h : ns.length ≤ 1000) : dSort [.list (ns.map .int)] = some (.list (srtD (ns.map .int))) := by
  show (if okSort (ns.map PyData.int) = true then _ else _) = _
  rw [if_pos (okSort_ints ns h)]
theorem for_nx {g : TD} {body : MS} (P : List PyData → Ev → Prop) (hs : ∀ d r ρ, P (d :: r) ρ → ∃ ρ1 ρ2, g d ρ = some ρ1 ∧ body ρ1 = .nx ρ2 ∧ P r ρ2) : ∀ ds ρ, P ds ρ → ∃ ρ', forGo g body ds ρ = .nx ρ' ∧ P [] ρ'
  | [], ρ, h => ⟨ρ, rfl, h⟩
  | d :: r, ρ, h => by
    obtain ⟨ρ1, ρ2, e1, e2, h2⟩ := hs d r ρ h
    obtain ⟨ρ', e, h'⟩ := for_nx P hs r ρ2 h2
    refine ⟨ρ', ?_, h'⟩
    rw [forGo, e1]
    dsimp only
    rw [e2]
    exact e
theorem while_nx {c : M Bool} {body : MS} (P : Nat → Ev → Prop) (Fin : Ev → Prop) (hs : ∀ m ρ, P m ρ → (∃ ρ', c ρ = .ok false ρ' ∧ Fin ρ') ∨ ∃ ρ1 ρ2 m', c ρ = .ok true ρ1 ∧ body ρ1 = .nx ρ2 ∧ m' < m ∧ P m' ρ2) :
    ∀ n m ρ, m < n → P m ρ → ∃ ρ', sWhile c body n ρ = .nx ρ' ∧ Fin ρ'
  | 0, _, _, h, _ => absurd h (Nat.not_lt_zero _)
  | n + 1, m, ρ, h, hp => by
    rcases hs m ρ hp with ⟨ρ', e, hf⟩ | ⟨ρ1, ρ2, m', e1, e2, h3, h4⟩
    · exact ⟨ρ', sWhile_f e, hf⟩
    · obtain ⟨ρ', e, hf⟩ := while_nx P Fin hs n m' ρ2 (by omega) h4
      exact ⟨ρ', by rw [sWhile_t e1 e2, e], hf⟩
/-! ### steps -/
theorem eV_ok {i : Nat} {ρ : Ev} {d : PyData} (h : ρ[i]? = some d) : eV i ρ = .ok d ρ := by unfold eV; rw [h]
theorem eTst_ok {fa : M PyData} {ρ ρ1 : Ev} {d : PyData} {g : PyData → Option Bool} {b : Bool} (h : fa ρ = .ok d ρ1) (hg : g d = some b) : eTst g fa ρ = .ok b ρ1 := by unfold eTst; rw [h]; dsimp only; rw [hg]
theorem tB {g : PyData → PyData → Option PyData} {fa fb : M PyData} {ρ ρ1 ρ2 : Ev} {a b : PyData} {r : Bool} (ha : fa ρ = .ok a ρ1) (hb : fb ρ1 = .ok b ρ2) (hg : g a b = some (.bool r)) : eTst asB (eBin g fa fb) ρ = .ok r ρ2 := eTst_ok (eBin_ok ha hb hg) rfl
theorem eCB_ok {g : List PyData → Option PyData} {fs : M (List PyData)} {ρ ρ1 : Ev} {ds : List PyData} {r : PyData} (h : fs ρ = .ok ds ρ1) (hg : g ds = some r) : eCB g fs ρ = .ok r ρ1 := by unfold eCB; rw [h]; dsimp only; rw [hg]
theorem aCons_ok {fa : M PyData} {fs : M (List PyData)} {ρ ρ1 ρ2 : Ev} {d : PyData} {ds : List PyData} (h : fa ρ = .ok d ρ1) (h2 : fs ρ1 = .ok ds ρ2) : aCons fa fs ρ = .ok (d :: ds) ρ2 := by unfold aCons; rw [h]; dsimp only; rw [h2]
theorem a1_ok {fa : M PyData} {ρ ρ1 : Ev} {d : PyData} (h : fa ρ = .ok d ρ1) : aCons fa aNil ρ = .ok [d] ρ1 := aCons_ok h rfl
theorem aIo_ok {fs : M (List PyData)} {ρ ρ1 : Ev} {ds : List PyData} (h : fs ρ = .ok ds ρ1) : aIo fs ρ = .ok (.none :: ds) ρ1 := by unfold aIo; rw [h]
theorem eCall_ok {is : List (Option Nat)} {fa : M (List PyData)} {D : M PyData} {ρ ρ1 es : Ev} {ds : List PyData} {r : PyData} (h : fa ρ = .ok ds ρ1) (hD : D (insIo is ds ρ1) = .ok r es) : eCall is fa D ρ = .ok r (putIo is es ρ1) := by unfold eCall; rw [h]; dsimp only; rw [hD]
theorem eCall_k {is : List (Option Nat)} {fa : M (List PyData)} {D : M PyData} {ρ ρ1 es ρ2 : Ev} (ds : List PyData) {r : PyData} (h : fa ρ = .ok ds ρ1) (hD : D (insIo is ds ρ1) = .ok r es) (hp : putIo is es ρ1 = ρ2) : eCall is fa D ρ = .ok r ρ2 := by rw [eCall_ok h hD, hp]
theorem eIf_t {c : M Bool} {fa fb : M PyData} {ρ ρ1 : Ev} (h : c ρ = .ok true ρ1) : eIf c fa fb ρ = fa ρ1 := by unfold eIf; rw [h]; rfl
theorem eIf_f {c : M Bool} {fa fb : M PyData} {ρ ρ1 : Ev} (h : c ρ = .ok false ρ1) : eIf c fa fb ρ = fb ρ1 := by unfold eIf; rw [h]; rfl
theorem sDrop_ok {fe : M PyData} {ρ ρ' : Ev} {d : PyData} (h : fe ρ = .ok d ρ') : sDrop fe ρ = .nx ρ' := by unfold sDrop; rw [h]
theorem sFor_ok {fi : MI} {g : TD} {body : MS} {ρ ρ' : Ev} {ds : List PyData} (h : fi ρ = .ok ds ρ') : sFor fi g body ρ = forGo g body ds ρ' := by unfold sFor; rw [h]
theorem eUn_ok {g : PyData → Option PyData} {fa : M PyData} {ρ ρ1 : Ev} {d r : PyData} (h : fa ρ = .ok d ρ1) (hg : g d = some r) : eUn g fa ρ = .ok r ρ1 := by unfold eUn; rw [h]; dsimp only; rw [hg]
theorem eSl_ok {g : PyData → Option Int → Option Int → Option PyData} {fa : M PyData} {fl fu : M (Option Int)} {ρ ρ1 ρ2 ρ3 : Ev} {d r : PyData} {l u : Option Int} (h : fa ρ = .ok d ρ1) (h2 : fl ρ1 = .ok l ρ2) (h3 : fu ρ2 = .ok u ρ3) (hg : g d l u = some r) : eSl g fa fl fu ρ = .ok r ρ3 := by
  unfold eSl; rw [h]; dsimp only; rw [h2]; dsimp only; rw [h3]; dsimp only; rw [hg]
theorem eMake_ok {is : List (Option Nat)} {ns : List Str} {fa : M (List PyData)} {D : M PyData} {ρ ρ1 ρ2 es : Ev} (ds : List PyData) {kvs : List (PyData × PyData)} (h : fa ρ = .ok ds ρ1) (hD : D (.dict [] :: insIo is ds ρ1) = .ok .none (.dict kvs :: es)) (hk : keysOk kvs ns = true) (hp : putIo is es ρ1 = ρ2) :
    eMake is ns fa D ρ = .ok (.tuple (kvs.map fun q => q.2)) ρ2 := by
  unfold eMake
  rw [h]
  dsimp only
  rw [hD]
  dsimp only
  rw [if_pos hk, hp]
theorem fnB_rt {bs : List Bool} {m : Nat} {nn : Bool} {body : MS} {ρ ρ' : Ev} {d : PyData} (h : body (ρ ++ List.replicate m .none) = .rt d ρ') : fnB bs m nn body ρ = .ok d (outB bs ρ ρ') := by unfold fnB; rw [h]
theorem fnB_nx {bs : List Bool} {m : Nat} {body : MS} {ρ ρ' : Ev} (h : body (ρ ++ List.replicate m .none) = .nx ρ') : fnB bs m true body ρ = .ok .none (outB bs ρ ρ') := by unfold fnB; rw [h]; rfl
theorem fnB_rt' {bs : List Bool} {m : Nat} {nn : Bool} {body : MS} {ρ ρ' ρ2 : Ev} {d : PyData} (h : body (ρ ++ List.replicate m .none) = .rt d ρ') (hp : outB bs ρ ρ' = ρ2) : fnB bs m nn body ρ = .ok d ρ2 := by rw [fnB_rt h, hp]
theorem fnB_nx' {bs : List Bool} {m : Nat} {body : MS} {ρ ρ' ρ2 : Ev} (h : body (ρ ++ List.replicate m .none) = .nx ρ') (hp : outB bs ρ ρ' = ρ2) : fnB bs m true body ρ = .ok .none ρ2 := by rw [fnB_nx h, hp]
theorem eTup_ok {fs : M (List PyData)} {ρ ρ1 : Ev} {ds : List PyData} (h : fs ρ = .ok ds ρ1) (hl : ds.length ≤ 1000 := by decide) : eTup fs ρ = .ok (.tuple ds) ρ1 := by unfold eTup; rw [h]; dsimp only; rw [if_pos hl]
theorem eLst_ok {fs : M (List PyData)} {ρ ρ1 : Ev} {ds : List PyData} (h : fs ρ = .ok ds ρ1) (hl : ds.length ≤ 1000 := by decide) : eLst fs ρ = .ok (.list ds) ρ1 := by unfold eLst; rw [h]; dsimp only; rw [if_pos hl]
theorem sAsg_ok {fe : M PyData} {g : TD} {ρ ρ' ρ2 : Ev} {d : PyData} (h : fe ρ = .ok d ρ') (hg : g d ρ' = some ρ2) : sAsg fe g ρ = .nx ρ2 := by unfold sAsg; rw [h]; dsimp only; rw [hg]
theorem bAnd_tt {f g : M Bool} {ρ ρ1 : Ev} (h : f ρ = .ok true ρ1) : bAnd f g ρ = g ρ1 := by unfold bAnd; rw [h]; rfl
theorem bAnd_ff {f g : M Bool} {ρ ρ1 : Ev} (h : f ρ = .ok false ρ1) : bAnd f g ρ = .ok false ρ1 := by unfold bAnd; rw [h]; rfl
theorem bOr_tt {f g : M Bool} {ρ ρ1 : Ev} (h : f ρ = .ok true ρ1) : bOr f g ρ = .ok true ρ1 := by unfold bOr; rw [h]; rfl
theorem bOr_ff {f g : M Bool} {ρ ρ1 : Ev} (h : f ρ = .ok false ρ1) : bOr f g ρ = g ρ1 := by unfold bOr; rw [h]; rfl
theorem bNot_ok {f : M Bool} {ρ ρ1 : Ev} {b : Bool} (h : f ρ = .ok b ρ1) : bNot f ρ = .ok (!b) ρ1 := by unfold bNot; rw [h]
theorem iV_list {fe : M PyData} {ρ ρ' : Ev} {ds : List PyData} (h : fe ρ = .ok (.list ds) ρ') : iV fe ρ = .ok ds ρ' := by unfold iV; rw [h]; rfl
theorem iV_tup {fe : M PyData} {ρ ρ' : Ev} {ds : List PyData} (h : fe ρ = .ok (.tuple ds) ρ') : iV fe ρ = .ok ds ρ' := by unfold iV; rw [h]; rfl
theorem sSeq_end {f : MS} {ρ ρ' : Ev} {d : PyData} {g : MS} (h : f ρ = .rt d ρ') : sSeq f g ρ = .rt d ρ' := sSeq_rt h
theorem sIf_nil {c : M Bool} {f : MS} {ρ ρ' : Ev} (h : c ρ = .ok false ρ') : sIf c f sNil ρ = .nx ρ' := sIf_f h
theorem sClr_ok {is : List Nat} {f : MS} {ρ ρ' : Ev} (h : f ρ = .nx ρ') : sClr is f ρ = .nx (clr is ρ') := by unfold sClr; rw [h]
end G

/-! G24: how long what is shown may be; repr of small data; draws. -/
namespace G
open PySem PySem.Spec PyProof.Rows SP
open L2 hiding St Inv Binds
theorem ofString_len (x : String) : (PySem.Str.ofString x).length = x.length := PySem.ofString_length x
theorem shown_int_len {i : Int} {k : Nat} (hk : 0 < k) (h : i.natAbs < 10 ^ k) : (PyData.shown (.int i)).length ≤ k + 1 := by
  have e : PyData.shown (.int i) = PySem.Str.ofString (toString i) := by simp only [PyData.shown]
  rw [e, ofString_len]
  cases i with
  | ofNat n =>
    have h1 : n < 10 ^ k := h
    have q : (toString (Int.ofNat n)).length = n.repr.length := rfl
    rw [q]
    have := (Nat.length_repr_le_iff (n := n) hk).mpr h1
    omega
  | negSucc n =>
    have h1 : n + 1 < 10 ^ k := h
    have q : toString (Int.negSucc n) = "-" ++ (n + 1).repr := rfl
    rw [q, String.length_append]
    have := (Nat.length_repr_le_iff (n := n + 1) hk).mpr h1
    have : ("-" : String).length = 1 := by decide
    omega
/-- small: nothing, a truth value, or a number of no more than a hundred figures -/
def Sml : PyData → Prop
  | .none => True
  | .bool _ => True
  | .int i => i.natAbs < 10 ^ 100
  | _ => False
theorem Sml.flat : ∀ {d : PyData}, Sml d → G.flat d = true
  | .none, _ => rfl
  | .bool _, _ => rfl
  | .int _, _ => rfl
theorem Sml.len : ∀ {d : PyData}, Sml d → d.shown.length ≤ 101
  | .none, _ => by
    have : (PyData.shown .none).length = 4 := by kernel_rfl
    omega
  | .bool b, _ => by
    have : (PyData.shown (.bool b)).length ≤ 5 := by cases b <;> decide
    omega
  | .int i, h => shown_int_len (by decide) h
theorem log_le {n : Nat} (h : n < 10 ^ 100) : n.log2 < 1920 := by
  by_cases h0 : n = 0
  · subst h0; decide
  · refine (Nat.log2_lt h0).mpr (Nat.lt_trans h ?_)
    decide +kernel
theorem Sml.show : ∀ {d : PyData}, Sml d → PyData.showable d = true
  | .none, _ => rfl
  | .bool _, _ => rfl
  | .int i, h => by
    show decide (i.natAbs.log2 < 1920) = true
    exact decide_eq_true (log_le h)
theorem sml_all : ∀ {ds : List PyData}, (∀ d ∈ ds, Sml d) → PyData.showableAll ds = true ∧ ∀ t ∈ PyData.shownAll ds, t.length ≤ 101
  | [], _ => ⟨rfl, fun _ h => nomatch h⟩
  | d :: ds, h => by
    obtain ⟨a, b⟩ := sml_all fun e he => h e (List.mem_cons_of_mem _ he)
    have hd := h d List.mem_cons_self
    refine ⟨?_, fun t ht => ?_⟩
    · show (PyData.showable d && PyData.showableAll ds) = true
      rw [hd.show, a]; rfl
    · have ht : t ∈ d.shown :: PyData.shownAll ds := by simpa only [PyData.shownAll] using ht
      rcases List.mem_cons.mp ht with rfl | ht
      · exact hd.len
      · exact b t ht
theorem shownAll_len : ∀ ds : List PyData, (PyData.shownAll ds).length = ds.length
  | [] => rfl
  | d :: ds => by
    have : PyData.shownAll (d :: ds) = d.shown :: PyData.shownAll ds := by simp only [PyData.shownAll]
    rw [this, List.length_cons, List.length_cons, shownAll_len ds]
theorem textFrom_le (B : Nat) : ∀ (ts : List PySem.Str) (k : Nat) (acc : PySem.Str), (∀ t ∈ ts, t.length ≤ B) → (textFrom k acc ts).length ≤ acc.length + ts.length * (B + 2)
  | [], _, acc, _ => by show acc.length ≤ _; omega
  | t :: r, k, acc, h => by
    have ih := textFrom_le B r (k + 1) (acc ++ (if k > 0 then ", " else "" : String) ++ t) fun u hu => h u (List.mem_cons_of_mem _ hu)
    have e : (acc ++ (if k > 0 then ", " else "" : String) ++ t).length = acc.length + (if k > 0 then 2 else 0) + t.length := by
      rw [strLen_append, strLen_append]
      split <;> rfl
    have ht := h t List.mem_cons_self
    show (textFrom (k + 1) (acc ++ (if k > 0 then ", " else "" : String) ++ t) r).length ≤ _
    rw [List.length_cons, Nat.add_mul, Nat.one_mul]
    have hk : (if k > 0 then 2 else 0) ≤ 2 := by split <;> omega
    rw [e] at ih
    generalize (if k > 0 then 2 else 0) = z at hk ih
    omega
theorem join_le (B : Nat) : ∀ ts : List PySem.Str, (∀ t ∈ ts, t.length ≤ B) → (PySem.Str.join ", " ts).length ≤ ts.length * (B + 2)
  | [], _ => by
    have : (PySem.Str.join ", " []).length = 0 := rfl
    omega
  | [t], h => by
    have := h t List.mem_cons_self
    show t.length ≤ 1 * (B + 2)
    omega
  | t :: u :: r, h => by
    have ih := join_le B (u :: r) fun v hv => h v (List.mem_cons_of_mem _ hv)
    have ht := h t List.mem_cons_self
    show (t ++ ", " ++ PySem.Str.join ", " (u :: r)).length ≤ _
    rw [strLen_append, strLen_append, List.length_cons, Nat.add_mul, Nat.one_mul]
    have e2 : ((", " : String) : PySem.Str).length = 2 := rfl
    omega
theorem okR_list {ds : List PyData} (h : ∀ d ∈ ds, Sml d) (hl : ds.length ≤ 1000) : okR (.list ds) = true := by
  obtain ⟨a, b⟩ := sml_all h
  unfold okR
  rw [okD_list fun d hd => (h d hd).flat, show PyData.showable (.list ds) = true from by simpa only [PyData.showable] using a]
  have e : PyData.shown (.list ds) = listText (PyData.shownAll ds) := by simp only [PyData.shown]
  have l := textFrom_le 101 (PyData.shownAll ds) 0 "[" b
  rw [shownAll_len] at l
  have l2 : (listText (PyData.shownAll ds)).length = (textFrom 0 "[" (PyData.shownAll ds)).length + 1 := by
    show (textFrom 0 "[" (PyData.shownAll ds) ++ "]").length = _
    rw [strLen_append]; rfl
  have l3 : (("[" : String) : PySem.Str).length = 1 := rfl
  rw [e, decide_eq_true (by rw [l2, sizeLine_eq]; omega)]
  rfl
theorem okR_tup {ds : List PyData} (h : ∀ d ∈ ds, Sml d) (hl : ds.length ≤ 1000) : okR (.tuple ds) = true := by
  obtain ⟨a, b⟩ := sml_all h
  unfold okR
  rw [okD_tup fun d hd => (h d hd).flat, show PyData.showable (.tuple ds) = true from by simpa only [PyData.showable] using a]
  have e : PyData.shown (.tuple ds) = tupleText (PyData.shownAll ds) := by simp only [PyData.shown]
  have l := join_le 101 (PyData.shownAll ds) b
  rw [shownAll_len] at l
  have l2 : (tupleText (PyData.shownAll ds)).length ≤ (PySem.Str.join ", " (PyData.shownAll ds)).length + 3 := by
    unfold tupleText
    rw [strLen_append, strLen_append]
    have l3 : (("(" : String) : PySem.Str).length = 1 := rfl
    have l4 : ((",)" : String) : PySem.Str).length = 2 := rfl
    have l5 : ((")" : String) : PySem.Str).length = 1 := rfl
    split <;> omega
  rw [e, decide_eq_true (by rw [sizeLine_eq]; omega)]
  rfl
theorem okR_sml {d : PyData} (h : Sml d) : okR d = true := by
  unfold okR
  have := h.len
  rw [okD_flat h.flat, h.show, decide_eq_true (by rw [sizeLine_eq]; omega)]
  rfl
theorem eqv_refl_flat : ∀ {d : PyData}, flat d = true → PyData.eqv d d = true
  | .none, _ => rfl
  | .bool b, _ => by cases b <;> rfl
  | .int i, _ => by rw [eqv_int]; exact beq_self_eq_true i
  | .str x, _ => by
    have e : PyData.eqv (.str x) (.str x) = (x == x) := by kernel_rfl
    rw [e]; exact beq_self_eq_true x
  | .list _, h => by cases h
  | .tuple _, h => by cases h
  | .dict _, h => by cases h
theorem eqvAll_refl : ∀ {ds : List PyData}, (∀ d ∈ ds, flat d = true) → PyData.eqvAll ds ds = true
  | [], _ => rfl
  | d :: ds, h => by
    show (PyData.eqv d d && PyData.eqvAll ds ds) = true
    rw [eqv_refl_flat (h d List.mem_cons_self), eqvAll_refl fun e he => h e (List.mem_cons_of_mem _ he)]
    rfl
theorem dNe_tup {ds : List PyData} (h : ∀ d ∈ ds, flat d = true) : dNe (.tuple ds) (.tuple ds) = some (.bool false) := by
  unfold dNe
  rw [if_pos ⟨okD_tup h, okD_tup h⟩]
  have : PyData.eqv (.tuple ds) (.tuple ds) = PyData.eqvAll ds ds := by simp only [PyData.eqv]
  rw [this, eqvAll_refl h]
  rfl
theorem dNe_str (x : PySem.Str) : dNe (.str x) (.str x) = some (.bool false) := by
  unfold dNe
  rw [if_pos ⟨okD_flat rfl, okD_flat rfl⟩, eqv_refl_flat rfl]
  rfl
/-- repr(a) != repr(b), both the same -/
theorem repr_same {fa fb : M PyData} {ρ ρ1 ρ2 : Ev} {d : PyData} (ha : fa ρ = .ok d ρ1) (hb : fb ρ1 = .ok d ρ2) (h : okR d = true) : eTst asB (eBin dNe (eCB dRepr (aCons fa aNil)) (eCB dRepr (aCons fb aNil))) ρ = .ok false ρ2 := by
  have e : dRepr [d] = some (.str d.shown) := by
    show (if okR d = true then some (PyData.str d.shown) else none) = _
    rw [if_pos h]
  exact tB (eCB_ok (a1_ok ha) e) (eCB_ok (a1_ok hb) e) (dNe_str _)
/-! ### draws -/
/-- the record of draws, its count no more than b -/
def MOk (b : Nat) (m : PyData) : Prop := ∃ cs gs k, m = dat cs gs k ∧ 0 ≤ k ∧ k ≤ (b : Int) ∧ gs.length ≤ 63
theorem MOk.up {b c : Nat} {m : PyData} (h : MOk b m) (hb : b ≤ c) : MOk c m := by
  obtain ⟨cs, gs, k, e, h1, h2, h3⟩ := h
  exact ⟨cs, gs, k, e, h1, by omega, h3⟩
/-- the next number below t, drawn -/
def NextOk (D : M PyData) : Prop := ∀ (b : Nat) (m : PyData) (t : Int), MOk b m → b < 2 ^ 90 → 0 < t → t < 2 ^ 1000 → ∃ r m', D [m, .int t] = .ok (.int r) [m', .int t] ∧ 0 ≤ r ∧ r < t ∧ MOk (b + 1) m'
theorem next_of {fuel : Nat} {p a b q c d s e : Int} (hp : 0 < p ∧ p < 2 ^ 100) (ha : 0 ≤ a ∧ a < 2 ^ 100) (hb : 0 ≤ b ∧ b < 2 ^ 100) (hq : 0 ≤ q ∧ q < 2 ^ 100) (hc : 0 ≤ c ∧ c < 2 ^ 100) (hd : 0 ≤ d ∧ d < 2 ^ 100) (hs : 0 < s ∧ s < 2 ^ 100) (he : 0 < e ∧ e < 2 ^ 100) (hf : 63 < fuel) :
    NextOk (DN fuel p a b q c d s e) := by
  rintro n m t ⟨cs, gs, k, rfl, h1, h2, h3⟩ hn ht0 ht1
  have e90 : ((2 ^ 90 : Nat) : Int) = 2 ^ 90 := by simp
  have e9 : (2 : Int) ^ 90 ≤ 2 ^ 100 := by decide +kernel
  obtain ⟨r, gs', k', e1, r0, r1, g1, k1, k2⟩ := next_ok (fuel := fuel) (cs := cs) (gs := gs) (k := k) (t := t) hp ha hb hq hc hd hs he ⟨h1, by omega⟩ ⟨ht0, ht1⟩ (by omega)
  exact ⟨r, _, e1, r0, r1, cs, gs', k', rfl, by omega, by omega, by omega⟩
/-- one of some, drawn -/
theorem of_of {D : M PyData} (h : NextOk D) {b : Nat} {m : PyData} {ds : List PyData} (hm : MOk b m) (hb : b < 2 ^ 90) (h0 : ds ≠ []) (hl : ds.length ≤ 1000) : ∃ d m', DO D [m, .list ds] = .ok d [m', .list ds] ∧ d ∈ ds ∧ MOk (b + 1) m' := by
  have hp : 0 < ds.length := List.length_pos_iff.mpr h0
  have e10 : (1000 : Int) < 2 ^ 1000 := by decide +kernel
  obtain ⟨r, m', e, r0, r1, h'⟩ := h b m (ds.length : Nat) hm hb (by omega) (by omega)
  refine ⟨_, m', of_ok e r0 r1, ?_, h'⟩
  have hr : r.toNat < ds.length := by omega
  rw [List.getD_eq_getElem?_getD, List.getElem?_eq_getElem hr]
  exact List.getElem_mem hr
theorem begun_of (cs : List Int) (h : cs.length ≤ 63) : ∃ m, DB [.list (cs.map .int)] = .ok m [.list (cs.map .int)] ∧ MOk 0 m := by
  obtain ⟨gs, e, hl⟩ := begun_ok cs (by omega)
  exact ⟨_, e, cs, gs, 0, rfl, Int.le_refl _, Int.le_refl _, by omega⟩
/-- a range by ones -/
theorem rngs_succ (lo : Int) (n : Nat) : rngs lo (n + 1) = .int lo :: rngs (lo + 1) n := by
  unfold rngs
  rw [List.range_succ_eq_map, List.map_cons, List.map_map]
  congr 1
  · show PyData.int (lo + ((0 : Nat) : Int)) = _
    congr 1; omega
  · refine List.map_congr_left fun i _ => ?_
    show PyData.int (lo + ((i + 1 : Nat) : Int)) = PyData.int (lo + 1 + (i : Nat))
    congr 1; omega
theorem okR62_sm {i : Int} (h0 : -1000000000 ≤ i) (h1 : i ≤ 1000000000) : okR62 i = true := by
  have e : (2 : Int) ^ 62 = 4611686018427387904 := by decide +kernel
  unfold okR62
  rw [e, decide_eq_true (by omega), decide_eq_true (by omega)]
  rfl
theorem rng1_ok {j : Int} (h0 : -1000000000 ≤ j) (h1 : j ≤ 1000000000) : rng1 [.int j] = some (rngs 0 j.toNat) := by
  show (if okR62 j = true then some (rngs 0 j.toNat) else none) = _
  rw [if_pos (okR62_sm h0 h1)]
theorem rng2_ok {i j : Int} (h0 : -1000000000 ≤ i) (h1 : i ≤ 1000000000) (h2 : -1000000000 ≤ j) (h3 : j ≤ 1000000000) : rng2 [.int i, .int j] = some (rngs i (j - i).toNat) := by
  show (if (okR62 i && okR62 j) = true then some (rngs i (j - i).toNat) else none) = _
  rw [okR62_sm h0 h1, okR62_sm h2 h3]
  rfl
theorem aft1_ok {g : List PyData → Option (List PyData)} {fa : M (List PyData)} {ρ ρ1 : Ev} {ds es : List PyData} (h : fa ρ = .ok ds ρ1) (hg : g ds = some es) : aft1 g fa ρ = .ok es ρ1 := by unfold aft1; rw [h]; dsimp only; rw [hg]
end G

/-! G25: the other record of draws: cells, left, spot; lists times; two own lists at once. -/
namespace G
open PySem PySem.Spec PyProof.Rows
open L2 hiding St Inv Binds
def oQ (K : PySem.W.Frag) : OP where
  p := fun H v d F => ∃ a b c cs gs k xs, v = .ref a ∧ F = [a, b] ∧ a ≠ b ∧ d = .tuple [.list cs, .list gs, .int k] ∧ H a = some (.dK [(.inr "cells", c), (.inr "left", .ref b), (.inr "spot", .int k)]) ∧ Rp K H c (.list cs) ∧ H b = some (.lst xs) ∧ RpAll K H xs gs
  frame := by
    rintro H H' v d F ⟨a, b, c, cs, gs, k, xs, rfl, rfl, hne, rfl, h1, h2, h3, h4⟩ hF kp
    exact ⟨a, b, c, cs, gs, k, xs, rfl, rfl, hne, rfl, (hF a (by simp)).trans h1, Rp.kp kp _ _ h2, (hF b (by simp)).trans h3, RpAll.kp kp _ _ h4⟩
  live := by
    rintro H v d F ⟨a, b, c, cs, gs, k, xs, rfl, rfl, hne, rfl, h1, h2, h3, h4⟩ e he
    have : e = a ∨ e = b := by simpa using he
    rcases this with rfl | rfl
    · exact ⟨_, h1, rfl⟩
    · exact ⟨_, h3, rfl⟩
section
variable {X : Cx} {κ : List SK} {W : WX} {x : Str} {p pos q2 : Pos} {j : Nat} {c : V → Prop} {jj : Option Str}
theorem qe_qC {j} (i : Nat) (hu : X.A.units + 64 < cLine) (hk : κ[i]? = some (.ow c (oQ X.K))) (hp : PE X (.Name x p) (tVar i)) : QE X κ W true .sh (.Subscript (.Name x p) (.Constant (.str "cells") j q2) pos) (eM i 0) := by
  refine PE.imp (pe_dget (by omega) hp pe_str (fun _ _ => rfl)) fun σ H Q ⟨ρ, G, fr, q⟩ => ?_
  obtain ⟨v, d0, q1, q2, _, a, b, c, cs, gs, k, xs, rfl, eG, hne, rfl, h1, h2, h3, h4⟩ := fr.ok i _ hk
  unfold eM at q
  rw [q2] at q
  exact ⟨_, q1, a, c, rfl, .inl ⟨_, .inr "cells", .inl h1, rfl, by rfl⟩, val_sh fr q h2⟩
theorem qe_qS {j} (i : Nat) (hu : X.A.units + 64 < cLine) (hk : κ[i]? = some (.ow c (oQ X.K))) (hp : PE X (.Name x p) (tVar i)) : QE X κ W true .sh (.Subscript (.Name x p) (.Constant (.str "spot") j q2) pos) (eM i 2) := by
  refine PE.imp (pe_dget (by omega) hp pe_str (fun _ _ => rfl)) fun σ H Q ⟨ρ, G, fr, q⟩ => ?_
  obtain ⟨v, d0, q1, q2, _, a, b, c, cs, gs, k, xs, rfl, eG, hne, rfl, h1, h2, h3, h4⟩ := fr.ok i _ hk
  unfold eM at q
  rw [q2] at q
  exact ⟨_, q1, a, .int k, rfl, .inl ⟨_, .inr "spot", .inl h1, rfl, by rfl⟩, val_sh fr q (.int k)⟩
theorem qe_qG {j} (i : Nat) (hu : X.A.units + 64 < cLine) (hk : κ[i]? = some (.ow c (oQ X.K))) (hp : PE X (.Name x p) (tVar i)) : QE X κ W true .pk (.Subscript (.Name x p) (.Constant (.str "left") j q2) pos) (eM i 1) := by
  refine PE.imp (pe_dget (by omega) hp pe_str (fun _ _ => rfl)) fun σ H Q ⟨ρ, G, fr, q⟩ => ?_
  obtain ⟨v, d0, q1, q2, _, a, b, c, cs, gs, k, xs, rfl, eG, hne, rfl, h1, h2, h3, h4⟩ := fr.ok i _ hk
  unfold eM at q
  rw [q2] at q
  exact ⟨_, q1, a, .ref b, rfl, .inl ⟨_, .inr "left", .inl h1, rfl, by rfl⟩, val_ok fr q (.refl H) ⟨.lst h3 h4, rfl⟩ fun _ z => nomatch z⟩
end
section
variable {X : Cx} {J : Jx} {κ : List SK} {pv : Bool} {x : Str} {p tpos pos q2 : Pos} {e : Expr} {fv : M PyData} {c : V → Prop}
theorem qs_qS {j} (i : Nat) (hu : X.A.units + 64 < cLine) (hk : κ[i]? = some (.ow c (oQ X.K))) (hp : PE X (.Name x p) (tVar i)) (hv : QE X κ J.W pv .sh e fv) (wx : Wk κ J.κx)
    (hs : swapsWith e (some (.Subscript (.Name x p) (.Constant (.str "spot") j q2) tpos)) pos.line X.env = pure false := by rfl) :
    QS X J κ κ (.Assign [.Subscript (.Name x p) (.Constant (.str "spot") j q2) tpos] e pos) (sPutMi i 2 fv) := by
  refine PS.imp (ps_dput (by omega) hp pe_str hv hs) fun D σ H ⟨ρ, G, fr, h⟩ => ⟨ρ, G, fr, ?_⟩
  unfold sPutMi at h
  cases e1 : fv ρ with
  | bad => rw [e1] at h; exact h
  | ex c p ρ' => rw [e1] at h; exact fun cls dd H' G' x f' r' => h cls dd σ H' G' x (f'.weak wx) (r'.sub fun b z => z.weak wx)
  | ok d ρ1 =>
    rw [e1] at h
    intro y H1 G1 F1 f1 r1 s1 ok1 n1
    obtain ⟨v, d0, q1, q2, _, a, b, c, cs, gs, k, xs, rfl, eG, hne, rfl, h1, h2, h3, h4⟩ := f1.ok i _ hk
    cases d with
    | int n =>
      obtain rfl : y = V.int n := ok1.pks.int
      dsimp only at h
      unfold putM at h
      rw [q2] at h
      have kp : Kp H1 (upd H1 a (.dK [(.inr "cells", c), (.inr "left", .ref b), (.inr "spot", .int n)])) := kp_upd h1 rfl
      have hm : a ∈ G1 i := by rw [eG]; simp
      have ne : ∀ b' u, b' ∉ G1 i → H1 b' = some u → (upd H1 a (.dK [(.inr "cells", c), (.inr "left", .ref b), (.inr "spot", .int n)])) b' = some u := fun b' u hb e => upd_other hm hb e
      refine ⟨_, q1, a, _, rfl, .inl ⟨_, .inr "spot", h1, rfl, by show 3 < sizeLine; decide, rfl⟩, ?_⟩
      refine h σ _ G1 (f1.wr hk q1 ⟨a, b, c, cs, gs, n, xs, rfl, eG, hne, rfl, ?_, Rp.kp kp _ _ h2, ?_, RpAll.kp kp _ _ h4⟩ kp ne) (r1.trans (Rel.wr hk ne fun b z => upd_none z))
      · exact upd_same
      · rw [upd_ne (Ne.symm hne)]; exact h3
    | _ => exact h.elim
/-- m['left'][k] = a value -/
def sPutQ (i : Nat) (fv fk : M PyData) : MS := fun ρ => match fv ρ with
  | .ok d ρ1 => (match fk ρ1 with
    | .ok kk ρ2 => (match kk, ρ2[i]? with
      | .int n0, some (.tuple [.list cs, .list gs, .int k]) => (match ixN gs.length n0 with
        | some j => .nx (ρ2.set i (.tuple [.list cs, .list (gs.set j d), .int k]))
        | none => .bad)
      | _, _ => .bad)
    | .ex c p ρ' => .ex c p ρ'
    | .bad => .bad)
  | .ex c p ρ' => .ex c p ρ'
  | .bad => .bad
theorem qs_qGi {j} {p3 : Pos} {ke : Expr} {fk : M PyData} (i : Nat) (hu : X.A.units + 64 < cLine) (hk : κ[i]? = some (.ow c (oQ X.K))) (hp : PE X (.Name x p) (tVar i)) (hv : QE X κ J.W pv .sh e fv) (hi : QE X κ J.W true .sh ke fk) (wx : Wk κ J.κx)
    (hs : swapsWithSole [.Subscript (.Subscript (.Name x p) (.Constant (.str "left") j q2) p3) ke tpos] e pos.line X.env = pure false := by rfl) (hw : swappedStores [.Subscript (.Subscript (.Name x p) (.Constant (.str "left") j q2) p3) ke tpos] e X.env = pure none := by rfl)
    (h1 : (assignEach [.Subscript (.Subscript (.Name x p) (.Constant (.str "left") j q2) p3) ke tpos] X.env).map (·.2) = [assign (.Subscript (.Subscript (.Name x p) (.Constant (.str "left") j q2) p3) ke tpos) X.env] := by rfl)
    (ha : ∀ v, assign (.Subscript (.Subscript (.Name x p) (.Constant (.str "left") j q2) p3) ke tpos) X.env v = (do
      let ov ← holding [v] (eval (.Subscript (.Name x p) (.Constant (.str "left") j q2) p3) X.env)
      let iv ← holding [v, ov] (eval ke X.env)
      standAt tpos
      holding [v, ov, iv] (setItem ov iv v)
      release [v, ov, iv] []) := by intro _; rfl) :
    QS X J κ κ (.Assign [.Subscript (.Subscript (.Name x p) (.Constant (.str "left") j q2) p3) ke tpos] e pos) (sPutQ i fv fk) := by
  refine PS.imp (ps_asg hv (pg_sub (pe_dget (by omega) hp pe_str (fun _ _ => rfl)) hi set_list ha) hs hw h1) fun D σ H ⟨ρ, G, fr, h⟩ => ⟨ρ, G, fr, ?_⟩
  unfold sPutQ at h
  cases e1 : fv ρ with
  | bad => rw [e1] at h; exact h
  | ex c p ρ' => rw [e1] at h; exact fun cls dd H' G' x f' r' => h cls dd σ H' G' x (f'.weak wx) (r'.sub fun b z => z.weak wx)
  | ok d ρ1 =>
    rw [e1] at h
    intro y H1 G1 F1 f1 r1 s1 ok1 n1
    obtain ⟨v, d0, q1, q2, _, a, b, c', cs, gs, k, xs, rfl, eG, hne, rfl, h1, h2, h3, h4⟩ := f1.ok i _ hk
    dsimp only at h
    refine ⟨_, q1, a, .ref b, rfl, .inl ⟨_, .inr "left", .inl h1, rfl, by rfl⟩, ρ1, G1, f1, ?_⟩
    cases e2 : fk ρ1 with
    | bad => rw [e2] at h; exact h
    | ex c p ρ' => rw [e2] at h; exact fun cls dd H' G' x f' r' => h cls dd σ H' G' x (f'.weak wx) ((r1.trans r').sub fun b z => z.weak wx)
    | ok kk ρ2 =>
      rw [e2] at h
      intro kv H2 G2 F2 f2 r2 s2 ok2 n2
      have sm := s2 rfl
      obtain ⟨v', d', q1', q2', _, a', b', c'', cs', gs', k', xs', rfl, eG', hne', rfl, h1', h2', h3', h4'⟩ := f2.ok i _ hk
      rw [q1] at q1'
      cases q1'
      have hb : b = b' := by
        have z := (sm _ _ h1).symm.trans h1'
        have z := Option.some.inj z
        injection z with z
        injection z with z1 z
        injection z with z2 z
        injection z2 with z3 z4
        injection z4
      subst hb
      dsimp only at h
      rw [q2'] at h
      cases kk with
      | int n0 =>
        obtain rfl : kv = V.int n0 := ok2.pks.int
        dsimp only at h
        cases e3 : ixN gs'.length n0 with
        | none => rw [e3] at h; exact h.elim
        | some j =>
          rw [e3] at h
          have kp : Kp H2 (upd H2 b (.lst (xs'.set j y))) := kp_upd h3' rfl
          have hm : b ∈ G2 i := by rw [eG']; simp
          have ne : ∀ b' u, b' ∉ G2 i → H2 b' = some u → (upd H2 b (.lst (xs'.set j y))) b' = some u := fun b' u hb e => upd_other hm hb e
          refine ⟨b, xs', n0, j, rfl, rfl, h3', by rw [h4'.len]; exact e3, ?_⟩
          refine h σ _ G2 (f2.wr hk q1 ⟨a, b, c'', cs', _, k', _, rfl, eG', hne', rfl, ?_, Rp.kp kp _ _ h2', upd_same, (RpAll.kp kp _ _ h4').set j (Rp.kp kp _ _ (Rp.kp (.of_same sm) _ _ ok1.1))⟩ kp ne) ((r1.trans r2).trans (Rel.wr hk ne fun b z => upd_none z))
          rw [upd_ne hne']; exact h1'
      | _ => exact h.elim
/-- return {'cells': e, 'left': a fresh list, 'spot': 0} -/
def sRetQ (fv gv : M PyData) (n0 : Int) : MS := fun ρ => match fv ρ with
  | .ok d ρ1 => (match gv ρ1 with
    | .ok d2 ρ2 => (match d, d2 with
      | .list cs, .list gs => .rt (.tuple [.list cs, .list gs, .int n0]) ρ2
      | _, _ => .bad)
    | .ex c p ρ' => .ex c p ρ'
    | .bad => .bad)
  | .ex c p ρ' => .ex c p ρ'
  | .bad => .bad
theorem qs_retQ {κn : List SK} {n0 : Int} {j1 j2 j3 j4} {p1 p2 p3 p4 p5 : Pos} {pv2 : Bool} {e2 : Expr} {gv : M PyData} (hv : QE X κ J.W pv .sh e fv) (hv2 : QE X κ J.W pv2 (.ow (oLst X.K)) e2 gv) (hr : J.rk = .ow (oQ X.K)) (wr : Wk κ J.κr) (wx : Wk κ J.κx) :
    QS X J κ κn (.Return (some (.Dict [some (.Constant (.str "cells") j1 p1), some (.Constant (.str "left") j2 p2), some (.Constant (.str "spot") j3 p3)] [e, e2, .Constant (.int n0) j4 p4] p5)) pos) (sRetQ fv gv n0) := by
  refine PS.imp (ps_ret (pe_disp (pps_cons pe_str hv (pps_cons pe_str hv2 (pps_cons pe_str pe_int pps_nil))) rfl rfl (by simp) (by simp))) fun D σ H ⟨ρ, G, fr, h⟩ => ?_
  intro a hna
  have sm : Same H (upd H a (.dK [])) := same_upd0 hna
  refine ⟨ρ, G, fr.same sm, ?_⟩
  unfold sRetQ at h
  cases e1 : fv ρ with
  | bad => rw [e1] at h; exact h
  | ex c p ρ' => rw [e1] at h; exact fun cls dd H' G' x f' r' => h cls dd σ H' G' x (f'.weak wx) (((Rel.of_same sm).trans r').sub fun b z => z.weak wx)
  | ok d ρ1 =>
    rw [e1] at h
    intro y H1 G1 F1 f1 r1 s1 ok1 n1
    have na : ¬ Own κ G a := fun z => by
      obtain ⟨u, e, _⟩ := fr.live z
      rw [hna] at e; cases e
    have e1a : H1 a = some (.dK []) := r1.keep _ _ upd_same na
    have na1 : ¬ Own κ G1 a := fun z => by
      rcases r1.new _ z with q | q
      · exact na q
      · rw [upd_same] at q; cases q
    dsimp only at h
    refine ⟨ρ1, G1, f1, ?_⟩
    cases e3 : gv ρ1 with
    | bad => rw [e3] at h; exact h
    | ex c p ρ' => rw [e3] at h; exact fun cls dd H' G' x f' r' => h cls dd σ H' G' x (f'.weak wx) (((Rel.of_same sm).trans (r1.trans r')).sub fun b z => z.weak wx)
    | ok d2 ρ2 =>
      rw [e3] at h
      intro y2 H2 G2 F2 f2 r2 s2 ok2 n2
      have e2a : H2 a = some (.dK []) := r2.keep _ _ e1a na1
      have na2 : ¬ Own κ G2 a := fun z => by
        rcases r2.new _ z with q | q
        · exact na1 q
        · rw [e1a] at q; cases q
      obtain ⟨b, xs, gs, rfl, rfl, rfl, g1, g2⟩ := ok2
      have nb := n2 b (by simp)
      have hab : a ≠ b := fun z => by
        rcases nb.1 with q | q
        · exact na1 (z ▸ q)
        · rw [← z, e1a] at q; cases q
      cases d with
      | list cs =>
        dsimp only at h
        refine ⟨e2a, [(.inr "cells", y), (.inr "left", .ref b), (.inr "spot", .int n0)], rfl, by simp, ?_⟩
        have em : mergeK [] [((.inr "cells" : Key), y), (.inr "left", .ref b), (.inr "spot", .int n0)] = [(.inr "cells", y), (.inr "left", .ref b), (.inr "spot", .int n0)] := by rfl
        rw [em]
        have kp : Kp H2 (upd H2 a (.dK [(.inr "cells", y), (.inr "left", .ref b), (.inr "spot", .int n0)])) := kp_upd e2a rfl
        have ra : Rel H (Own κ G) H2 (Own κ G2) := ((Rel.of_same (S := Own κ G) sm).trans r1).trans r2
        have r3 : Rel H (Own κ G) (upd H2 a (.dK [(.inr "cells", y), (.inr "left", .ref b), (.inr "spot", .int n0)])) (Own κ G2) := by
          refine ⟨fun b u hb n => ?_, ra.new, fun b z => ra.non b (upd_none z)⟩
          rw [upd_ne]
          · exact ra.keep b u hb n
          · intro z; rw [z, hna] at hb; cases hb
        have f3 := f2.updF (u := .dK [(.inr "cells", y), (.inr "left", .ref b), (.inr "spot", .int n0)]) na2 kp
        have kp2 : Kp H1 H2 := f1.kp r2
        refine h (.ref a) σ _ G2 [a, b] (f3.weak wr) ⟨r3.keep, fun b' z => ?_, r3.non⟩ (by
          rw [hr]
          exact ⟨a, b, y, cs, gs, n0, xs, rfl, rfl, hab, rfl, upd_same, Rp.kp kp _ _ (Rp.kp kp2 _ _ ok1.1), by rw [upd_ne (Ne.symm hab)]; exact g1, RpAll.kp kp _ _ g2⟩) fun b' hb z => ?_
        · rcases z with z | z
          · have : b' = a ∨ b' = b := by simpa using z
            rcases this with z | z
            · exact .inr (z ▸ hna)
            · rw [z]
              have r0 := (Rel.of_same (S := Own κ G) sm).trans r1
              rcases nb.1 with q | q
              · exact r0.new b q
              · exact .inr (r0.non b q)
          · exact r3.new b' (z.weak wr)
        · have : b' = a ∨ b' = b := by simpa using hb
          rcases this with q | q
          · exact na2 (q ▸ z.weak wr)
          · exact nb.2 (q ▸ z.weak wr)
      | _ => exact h.elim
end
/-! ### a fresh list, so often -/
def rDL (K : PySem.W.Frag) (rk : RK) (g : PyData → PyData → Option PyData) : R2 := fun x y H Q => ∃ a xs ds e r, x = V.ref a ∧ H a = some (.lst xs) ∧ RpAll K H xs ds ∧ Pk K H y e ∧ g (.list ds) e = some r ∧ ∀ z H' F, Same H H' → ResOk K rk H' z r F → (∀ b ∈ F, H b = none) → Q z H'
theorem binL_ok {K : PySem.W.Frag} {mg : Str → Option Value} {κ : List SK} {W : WX} {kb rk : RK} {pa pb : Bool} {fa fb : M PyData} {g : PyData → PyData → Option PyData} (lb : kb.looks K) {σ : St} {H : Hp} {Q : VK}
    (h : tE K mg κ W (pa && pb) rk (eBin g fa fb) σ H Q) : tOp (rDL K rk g) (tE K mg κ W pa (.ow (oLst K)) fa) (tE K mg κ W pb kb fb) σ H Q := by
  obtain ⟨ρ, G, f, q⟩ := h
  refine ⟨ρ, G, f, ?_⟩
  unfold eBin at q
  cases ea : fa ρ with
  | bad => rw [ea] at q; exact q
  | ex c p ρ' => rw [ea] at q; exact q
  | ok d ρ1 =>
    rw [ea] at q
    intro v1 H1 G1 F1 f1 r1 s1 ok1 n1
    refine ⟨ρ1, G1, f1, ?_⟩
    dsimp only at q
    cases eb : fb ρ1 with
    | bad => rw [eb] at q; exact q
    | ex c p ρ' => rw [eb] at q; exact fun cls dd H' G' x f' r' => q cls dd H' G' x f' (r1.trans r')
    | ok e ρ2 =>
      rw [eb] at q
      intro v2 H2 G2 F2 f2 r2 s2 ok2 n2
      dsimp only at q
      have ok1' := ok1.after f1 (pu := pb) rfl r2 s2 fun b hb => (n1 b hb).2
      cases eg : g d e with
      | none => rw [eg] at q; exact q.elim
      | some r =>
        rw [eg] at q
        obtain ⟨a, xs, ds, rfl, rfl, rfl, h1, h2⟩ := ok1'
        refine ⟨a, xs, ds, e, r, rfl, h1, h2, ok2.pk lb, eg, fun z H3 F k ok3 n3 => ?_⟩
        refine q z H3 G2 F (f2.same k) ((r1.trans r2).trans (.of_same k)) (fun hp => ?_) ok3 fun b hb => ⟨.inr (r1.non b (r2.non b (n3 b hb))), fun z => ?_⟩
        · rw [Bool.and_eq_true] at hp
          exact (s1 hp.1).trans ((s2 hp.2).trans k)
        · obtain ⟨u, e3, _⟩ := f2.live z
          rw [n3 b hb] at e3; cases e3
theorem od_repL {X : Cx} : OpR X (binaryOp .Mult) (rDL X.K (.ow (oLst X.K)) dMulL) := by
  intro pins s σ H x y v u Q I rx ry h
  obtain ⟨a, xs, ds, e, r, rfl, ha, ra, py, eg, q⟩ := h
  unfold dMulL at eg
  split at eg
  · rename_i es k ed
    cases ed
    split at eg
    · rename_i hl
      cases eg
      cases py.int
      refine op_rep pins s σ H _ _ v u Q I rx ry ⟨a, k, xs, rfl, rfl, ha, hl.1, hl.2.1, by rw [ra.len]; exact hl.2.2, fun p hp => res_lst q hp (ra.rep _)⟩
    · cases eg
  · cases eg
theorem qe_repL {X : Cx} {κ : List SK} {W : WX} {kb : RK} {pa pb : Bool} {fa fb : M PyData} {a b : Expr} {pos : Pos} (ha : QE X κ W pa (.ow (oLst X.K)) a fa) (hb : QE X κ W pb kb b fb) (lb : kb.looks X.K := by trivial) :
    QE X κ W (pa && pb) (.ow (oLst X.K)) (.BinOp a .Mult b pos) (eBin dMulL fa fb) := PE.imp (pe_op od_repL ha hb) fun _ _ _ h => binL_ok lb h
/-! ### two at once, the second one owned -/
def sParO (i j : Nat) (fa fb : M PyData) : MS := fun ρ => match fa ρ with
  | .ok d ρ1 => (match fb ρ1 with
    | .ok e ρ2 => .nx ((ρ2.set i d).set j e)
    | .ex c p ρ' => .ex c p ρ'
    | .bad => .bad)
  | .ex c p ρ' => .ex c p ρ'
  | .bad => .bad
theorem qs_parO {X : Cx} {J : Jx} {κ : List SK} {pa pb : Bool} {fa fb : M PyData} {o : OP} {i j : Nat} {x y : Str} {a b : Expr} {pos px py pt : Pos} {kt k2 pt2} (hc : X.calm = true) (hN : X.N.Nodup) (hi : X.N[i]? = some x) (hj : X.N[j]? = some y) (hij : i ≠ j)
    (hx : X.env.scope.names.lookup x = some .local) (hy : X.env.scope.names.lookup y = some .local) (ha : QE X κ J.W pa .sh a fa) (hb : QE X κ J.W pb (.ow o) b fb) (wx : Wk κ J.κx)
    (hw : swappedStores [.Tuple [.Name x px, .Name y py] kt pt] (.Tuple [a, b] k2 pt2) X.env = pure (some [x, y])) (hil : i < κ.length := by first | decide | simp) (hjl : j < (κ.set i .sh).length := by first | decide | simp)
    (hs : swapsWithSole [.Tuple [.Name x px, .Name y py] kt pt] (.Tuple [a, b] k2 pt2) pos.line X.env = pure false := by rfl)
    (t1 : starEach [a, b] X.env = (false, eval a X.env) :: starEach [b] X.env := by rfl) (t2 : starEach [b] X.env = (false, eval b X.env) :: starEach [] X.env := by rfl) :
    QS X J κ ((κ.set i .sh).set j (.ow (fun _ => True) o)) (.Assign [.Tuple [.Name x px, .Name y py] kt pt] (.Tuple [a, b] k2 pt2) pos) (sParO i j fa fb) := by
  refine PS.imp (ps_par hc hN hi hj hij hx hy (pa_cons ha (pa_cons hb pa_nil t2) t1) hw hs) fun D σ H ⟨ρ, G, fr, h⟩ => ⟨ρ, G, fr, ?_⟩
  unfold sParO at h
  cases e1 : fa ρ with
  | bad => rw [e1] at h; exact h
  | ex c p ρ' => rw [e1] at h; exact fun cls dd H' G' x f' r' => h cls dd σ H' G' x (f'.weak wx) (r'.sub fun b z => z.weak wx)
  | ok d ρ1 =>
    rw [e1] at h
    intro v H1 G1 F1 f1 r1 s1 ok1 n1
    dsimp only at h
    refine ⟨ρ1, G1, f1, ?_⟩
    cases e2 : fb ρ1 with
    | bad => rw [e2] at h; exact h
    | ex c p ρ' => rw [e2] at h; exact fun cls dd H' G' x f' r' => h cls dd σ H' G' x (f'.weak wx) ((r1.trans r').sub fun b z => z.weak wx)
    | ok e ρ2 =>
      rw [e2] at h
      intro w H2 G2 F2 f2 r2 s2 ok2 n2
      dsimp only at h
      refine ⟨v, w, rfl, ?_⟩
      have g1 := f2.put (i := i) (k := .sh) (v := v) (d := d) (F := []) hil ⟨v, d, rfl, rfl, Rp.kp (f1.kp r2) _ _ ok1.1⟩ (fun c o e => nomatch e)
      have g2 := g1.put (i := j) (k := .ow (fun _ => True) o) (v := w) (d := e) (F := F2) hjl ⟨w, e, rfl, rfl, trivial, ok2⟩ (fun c o' _ b hb z => by
        rcases Own.put hil z with ⟨z, _⟩ | z
        · cases z
        · exact (n2 b hb).2 z)
      refine h _ H2 _ g2 ⟨(r1.trans r2).keep, fun b z => ?_, (r1.trans r2).non⟩
      rcases Own.put hjl z with ⟨z, _⟩ | z
      · rcases (n2 b z).1 with q | q
        · exact r1.new b q
        · exact .inr (r1.non b q)
      · rcases Own.put hil z with ⟨z, _⟩ | z
        · cases z
        · exact (r1.trans r2).new b z
end G

/-! G26: the law's end with the script's bits told; the draws with left. -/
namespace G
open PySem PySem.Spec PyProof.Rows SP
open L2 hiding St Inv Binds
theorem law_spB {K : PySem.W.Frag} {mg : Str → Option Value} {D : M PyData} {n : Nat} (hD : ∀ ns : List Int, ns.length ≤ n → (∀ z ∈ ns, Builtin.Int.intBits z ≤ 1048576) → ∃ ρ', D [.list (ns.map .int)] = .ok (.bool true) ρ') (H : Hp) (a : Addr) (ns : List Int) (hl : ns.length ≤ n) (hb : ∀ z ∈ ns, Builtin.Int.intBits z ≤ 1048576) (hO : Only H) (hS : SqL K H a (ns.map V.int)) :
    spG K mg [none] .sh D [.ref a] H (fun v _ => v = .bl true) fun _ _ _ => False := by
  refine ⟨rfl, [.list (ns.map .int)], fun _ => [], ⟨rfl, rfl, fun i k e => ?_, fun i j c o c' o' e => ?_⟩, ?_⟩
  · cases i with
    | zero => cases e; exact ⟨_, _, rfl, rfl, script_rp hO hS⟩
    | succ i => simp [pK] at e
  · cases i with
    | zero => cases e
    | succ i => simp [pK] at e
  · obtain ⟨ρ', e⟩ := hD ns hl hb
    rw [e]
    intro v H' G' F f' r' ok n'
    exact ok.pks.bool
theorem walk_ofGB {l : PySem.W.OpenLaw} {n k : Nat} {q : Program} {loose : List Str} {XP : (Str → Option Value) → Heap → Prop} {YP : World → Heap → Prop} {d : DefRec} {x : Str}
    (hn : l.most = some n) (hn2 : n ≤ sizeLine) (hdf : d.params.defaults = []) (hr : Room k callerA)
    (F : ∀ (w : World) (mg : Str → Option Value) (fa : Addr) (h : Heap), YP w h → h.Ns mainGlobals mg → mg d.name = some (.ref fa) →
      ∃ (K : PySem.W.Frag) (fd : FuncData) (sp : Sp), K.In h ∧ (∀ (s : Shared) (u : Value), BindsTo s fd ⟨[u], []⟩ [(x, u)]) ∧
        (∀ (H : Hp) (a : Addr) (ns : List Int), ns.length ≤ n → (∀ z ∈ ns, Builtin.Int.intBits z ≤ 1048576) → Only H → SqL K H a (ns.map V.int) → sp [.ref a] H (fun v _ => v = .bl true) fun _ _ _ => False) ∧
        ∀ base : Heap, K.In base → base.Ns mainGlobals mg → FnG l.prog w K mg base (L2.CX l.prog w) k fa fd [x] sp) :
    PySem.W.WalkO q loose XP YP l.row.toRowW d [] (fun f vs => PySem.call f vs) := by
  refine Att.attach_callB hn hdf fun w s₀ s₁ mg mb fa o pm cd doc a vs ns G Y ho hd hcd hmg hobj hints hlen hbits hg => ?_
  obtain ⟨K, fd, sp, KX, hb, hsp, hF⟩ := F w mg fa _ Y G.T.g hmg
  exact law_callG KX G.T.g G.T.b G.T.builtins G.T.nolimit hg hobj hints (Nat.le_trans hlen hn2) hr hF hb (fun H hO hS => hsp H a ns hlen hbits hO hS) fun H e s' ⟨_, _, _, _, _, _, _, _, _, _, _, _, z⟩ => z

/-! ### draws: cells, left, spot -/
/-- the mixed number -/
def DMix : M PyData := fnB [false, false] 2 false (sSeq (sSet 2 (eBin dMod (eCB dInt (aCons (eBin dAdd (eBin dAdd (eBin dMul (eV 0) (eK (.int 40503))) (eBin dMul (eV 1) (eK (.int 69069)))) (eK (.int 12345))) aNil)) (eK (.int 2147483647)))) (sSeq (sSet 3 (eBin dMod (eCB dInt (aCons (eBin dAdd (eBin dAdd (eBin dMul (eV 2) (eK (.int 48271))) (eV 0)) (eV 1)) aNil)) (eK (.int 2147483647)))) (sRet (eBin dMod (eCB dInt (aCons (eBin dAdd (eBin dMul (eV 3) (eK (.int 16807))) (eBin dMul (eBin dMul (eV 1) (eV 1)) (eK (.int 7919)))) aNil)) (eK (.int 2147483647))))))
def DDraw : M PyData := fnB [true, false] 3 false (sSeq (sSet 2 (eM 0 2)) (sSeq (sPutMi 0 2 (eBin dAdd (eV 2) (eK (.int 1)))) (sSeq (sSet 3 (eBin dMod (eCB dInt (aCons (eV 2) aNil)) (eCB dLen (aCons (eM 0 0) aNil)))) (sSeq (sSet 4 (eBin dIx (eM 0 1) (eV 3))) (sSeq (sIf (eTst asB (eBin dGt (eV 4) (eK (.int 0)))) (sSeq (sPutQ 0 (eBin dDiv (eV 4) (eV 1)) (eV 3)) (sRet (eBin dMod (eCB dInt (aCons (eV 4) aNil)) (eV 1)))) sNil) (sRet (eBin dMod (eCB dInt (aCons (eBin dDiv (eCall [none, none] (aCons (eBin dIx (eM 0 0) (eV 3)) (aCons (eV 2) aNil)) DMix) (eK (.int 97))) aNil)) (eV 1))))))))
def DBegQ : M PyData := fnB [false] 2 false (sSeq (sSet 1 (eIf (eTst asB (eBin dNe (eV 0) (eLst aNil))) (eCB dList (aCons (eV 0) aNil)) (eLst (aCons (eK (.int 0)) aNil)))) (sRetQ (eV 1) (eLc [2] (iV (eV 1)) (gN 2) tYesD (eIf (eTst asB (eBin dGe (eV 2) (eBin dPow (eK (.int 10)) (eK (.int 18))))) (eV 2) (eK (.int 0)))) 0))
/-- a cell no longer than a script's -/
def Wd (i : Int) : Prop := i.natAbs < 2 ^ 1048576
theorem Wd.of_bits {i : Int} (h : Builtin.Int.intBits i ≤ 1048576) : Wd i := by
  by_cases h0 : i = 0
  · subst h0
    show (0 : Nat) < 2 ^ 1048576
    exact Nat.two_pow_pos _
  · have e : Builtin.Int.intBits i = i.natAbs.log2 + 1 := by
      unfold Builtin.Int.intBits
      simp [h0]
    rw [e] at h
    exact Nat.lt_of_lt_of_le Nat.lt_log2_self (Nat.pow_le_pow_right (by decide) h)
theorem Wd.log {i : Int} (h : Wd i) : i.natAbs.log2 < 1048576 := by
  by_cases h0 : i.natAbs = 0
  · rw [h0]
    show Nat.log2 0 < 1048576
    rw [Nat.log2_zero]; omega
  · exact (Nat.log2_lt h0).mpr h
theorem Sm.log {i : Int} (h : Sm 4000 i) : i.natAbs.log2 < 4000 := log_small h (by decide)
theorem eMulW_ok {fa fb : M PyData} {ρ ρ1 ρ2 : Ev} {i j : Int} (ha : fa ρ = .ok (.int i) ρ1) (hb : fb ρ1 = .ok (.int j) ρ2) (h1 : i.natAbs.log2 ≤ 10000000) (h2 : j.natAbs.log2 ≤ 10000000) : eBin dMul fa fb ρ = .ok (.int (i * j)) ρ2 :=
  eBin_ok ha hb (if_pos (by omega))
theorem mix_ok {c s : Int} (hc : Wd c) (hs : 0 ≤ s ∧ s < 2 ^ 100) : ∃ v, DMix [.int c, .int s] = .ok (.int v) [.int c, .int s] ∧ 0 ≤ v ∧ v < 2147483647 := by
  have S : Sm 100 s := .of hs.1 hs.2
  have lc := hc.log
  have lS := (S.up (by decide : 100 ≤ 4000)).log
  have k1 : (40503 : Int).natAbs.log2 ≤ 100 := by decide
  have k2 : (69069 : Int).natAbs.log2 ≤ 100 := by decide
  have k3 : (48271 : Int).natAbs.log2 ≤ 100 := by decide
  have k4 : (16807 : Int).natAbs.log2 ≤ 100 := by decide
  have k5 : (7919 : Int).natAbs.log2 ≤ 100 := by decide
  have e1 : eBin dMod (eCB dInt (aCons (eBin dAdd (eBin dAdd (eBin dMul (eV 0) (eK (.int 40503))) (eBin dMul (eV 1) (eK (.int 69069)))) (eK (.int 12345))) aNil)) (eK (.int 2147483647)) [.int c, .int s, .none, .none] = .ok (.int ((c * 40503 + s * 69069 + 12345) % 2147483647)) [.int c, .int s, .none, .none] :=
    eMod_ok (eInt_ok (eAdd_ok (eAdd_ok (eMulW_ok rfl rfl (by omega) (by omega)) (eMulW_ok rfl rfl (by omega) (by omega))) rfl)) rfl (by decide)
  generalize hx : (c * 40503 + s * 69069 + 12345) % 2147483647 = x at e1
  have x0 : 0 ≤ x := by rw [← hx]; exact Int.emod_nonneg _ (by decide)
  have x1 : x < 2147483647 := by rw [← hx]; exact Int.emod_lt_of_pos _ (by decide)
  have X : Sm 100 x := .of x0 (by omega)
  have lx := (X.up (by decide : 100 ≤ 4000)).log
  have e2 : eBin dMod (eCB dInt (aCons (eBin dAdd (eBin dAdd (eBin dMul (eV 2) (eK (.int 48271))) (eV 0)) (eV 1)) aNil)) (eK (.int 2147483647)) [.int c, .int s, .int x, .none] = .ok (.int ((x * 48271 + c + s) % 2147483647)) [.int c, .int s, .int x, .none] :=
    eMod_ok (eInt_ok (eAdd_ok (eAdd_ok (eMulW_ok rfl rfl (by omega) (by omega)) rfl) rfl)) rfl (by decide)
  generalize hy : (x * 48271 + c + s) % 2147483647 = y at e2
  have y0 : 0 ≤ y := by rw [← hy]; exact Int.emod_nonneg _ (by decide)
  have y1 : y < 2147483647 := by rw [← hy]; exact Int.emod_lt_of_pos _ (by decide)
  have Y : Sm 100 y := .of y0 (by omega)
  have ly := (Y.up (by decide : 100 ≤ 4000)).log
  have lss := ((S.mul S).up (by decide : 100 + 100 ≤ 4000)).log
  have e3 : eBin dMod (eCB dInt (aCons (eBin dAdd (eBin dMul (eV 3) (eK (.int 16807))) (eBin dMul (eBin dMul (eV 1) (eV 1)) (eK (.int 7919)))) aNil)) (eK (.int 2147483647)) [.int c, .int s, .int x, .int y] = .ok (.int ((y * 16807 + s * s * 7919) % 2147483647)) [.int c, .int s, .int x, .int y] :=
    eMod_ok (eInt_ok (eAdd_ok (eMulW_ok rfl rfl (by omega) (by omega)) (eMulW_ok (eMulW_ok rfl rfl (by omega) (by omega)) rfl (by omega) (by omega)))) rfl (by decide)
  refine ⟨(y * 16807 + s * s * 7919) % 2147483647, ?_, Int.emod_nonneg _ (by decide), Int.emod_lt_of_pos _ (by decide)⟩
  exact fnB_rt' (ρ' := [.int c, .int s, .int x, .int y]) ((sSeq_nx (sSet_ok e1)).trans ((sSeq_nx (sSet_ok e2)).trans (sRet_ok e3))) rfl
/-- the record of draws, its count no more than b -/
def QOk (b : Nat) (m : PyData) : Prop := ∃ cs gs k, m = dat cs gs k ∧ 0 ≤ k ∧ k ≤ (b : Int) ∧ cs ≠ [] ∧ gs.length = cs.length ∧ ∀ c ∈ cs, Wd c
theorem QOk.up {b c : Nat} {m : PyData} (h : QOk b m) (hb : b ≤ c) : QOk c m := by
  obtain ⟨cs, gs, k, e, h1, h2, h3⟩ := h
  exact ⟨cs, gs, k, e, h1, by omega, h3⟩
theorem at_ints {ns : List Int} {j : Nat} (h : j < ns.length) : dIx (.list (ns.map .int)) (.int (j : Int)) = some (.int ns[j]) := by
  rw [dIx_nat (by rw [List.length_map]; exact h), List.getD_eq_getElem?_getD, List.getElem?_map, List.getElem?_eq_getElem h]
  rfl
theorem set_ints (ns : List Int) (j : Nat) (x : Int) : (ns.map PyData.int).set j (.int x) = (ns.set j x).map .int := by
  rw [List.map_set]
theorem draw_ok {b : Nat} {m : PyData} {t : Int} (hm : QOk b m) (hb : b < 2 ^ 90) (h0 : 0 < t) (h1 : t < 2 ^ 1000) : ∃ r m', DDraw [m, .int t] = .ok (.int r) [m', .int t] ∧ 0 ≤ r ∧ r < t ∧ QOk (b + 1) m' := by
  obtain ⟨cs, gs, k, rfl, k0, k1, hc, hg, hw⟩ := hm
  have hl : 0 < cs.length := List.length_pos_iff.mpr hc
  have e90 : ((2 ^ 90 : Nat) : Int) = 2 ^ 90 := by simp
  have e9 : (2 : Int) ^ 90 ≤ 2 ^ 100 := by decide +kernel
  have s0 : sSet 2 (eM 0 2) ([dat cs gs k, .int t] ++ List.replicate 3 .none) = .nx [dat cs gs k, .int t, .int k, .none, .none] := rfl
  have s1 : sPutMi 0 2 (eBin dAdd (eV 2) (eK (.int 1))) [dat cs gs k, .int t, .int k, .none, .none] = .nx [dat cs gs (k + 1), .int t, .int k, .none, .none] := rfl
  obtain ⟨j, hj⟩ : ∃ j : Nat, k % ((cs.length : Nat) : Int) = (j : Int) := ⟨(k % ((cs.length : Nat) : Int)).toNat, by have := Int.emod_nonneg k (show ((cs.length : Nat) : Int) ≠ 0 by omega); omega⟩
  have hjl : j < cs.length := by have := Int.emod_lt_of_pos k (show 0 < ((cs.length : Nat) : Int) by omega); omega
  have s2 : sSet 3 (eBin dMod (eCB dInt (aCons (eV 2) aNil)) (eCB dLen (aCons (eM 0 0) aNil))) [dat cs gs (k + 1), .int t, .int k, .none, .none] = .nx [dat cs gs (k + 1), .int t, .int k, .int (j : Int), .none] := by
    have el : eCB dLen (aCons (eM 0 0) aNil) [dat cs gs (k + 1), .int t, .int k, .none, .none] = .ok (.int (cs.length : Nat)) [dat cs gs (k + 1), .int t, .int k, .none, .none] := by
      have e : eCB dLen (aCons (eM 0 0) aNil) [dat cs gs (k + 1), .int t, .int k, .none, .none] = .ok (.int ((cs.map PyData.int).length : Nat)) [dat cs gs (k + 1), .int t, .int k, .none, .none] := rfl
      rw [e, List.length_map]
    have q := eMod_ok (eInt_ok (fa := eV 2) (ρ := [dat cs gs (k + 1), .int t, .int k, .none, .none]) (i := k) rfl) el (by omega)
    rw [hj] at q
    exact sSet_ok q
  have hjg : j < gs.length := by omega
  have s3 : sSet 4 (eBin dIx (eM 0 1) (eV 3)) [dat cs gs (k + 1), .int t, .int k, .int (j : Int), .none] = .nx [dat cs gs (k + 1), .int t, .int k, .int (j : Int), .int gs[j]] :=
    sSet_ok (eBin_ok (a := .list (gs.map .int)) (b := .int (j : Int)) rfl rfl (at_ints hjg))
  have tg : eTst asB (eBin dGt (eV 4) (eK (.int 0))) [dat cs gs (k + 1), .int t, .int k, .int (j : Int), .int gs[j]] = .ok (decide (0 < gs[j])) [dat cs gs (k + 1), .int t, .int k, .int (j : Int), .int gs[j]] := tB (a := .int gs[j]) (b := .int 0) rfl rfl rfl
  have tt : t.natAbs < 2 ^ 4000 := by
    have h1 : t.natAbs < 2 ^ 1000 := by omega
    exact Nat.lt_of_lt_of_le h1 (Nat.pow_le_pow_right (by decide) (by decide))
  by_cases hp : 0 < gs[j]
  · rw [decide_eq_true hp] at tg
    have e4 : eBin dDiv (eV 4) (eV 1) [dat cs gs (k + 1), .int t, .int k, .int (j : Int), .int gs[j]] = .ok (.int (gs[j] / t)) [dat cs gs (k + 1), .int t, .int k, .int (j : Int), .int gs[j]] := eBin_ok (a := .int gs[j]) (b := .int t) rfl rfl (dDiv_ok h0 tt)
    have e5 : sPutQ 0 (eBin dDiv (eV 4) (eV 1)) (eV 3) [dat cs gs (k + 1), .int t, .int k, .int (j : Int), .int gs[j]] = .nx [dat cs (gs.set j (gs[j] / t)) (k + 1), .int t, .int k, .int (j : Int), .int gs[j]] := by
      unfold sPutQ
      rw [e4]
      show (match ixN (gs.map PyData.int).length (j : Int) with
        | some j' => SR.nx (List.set [dat cs gs (k + 1), .int t, .int k, .int (j : Int), .int gs[j]] 0 (.tuple [.list (cs.map .int), .list ((gs.map PyData.int).set j' (.int (gs[j] / t))), .int (k + 1)]))
        | none => .bad) = _
      have ex : ixN (gs.map PyData.int).length (j : Int) = some j := by
        unfold ixN
        rw [if_pos (by omega), if_pos (by rw [List.length_map]; omega)]
        congr 1
      rw [ex]
      dsimp only
      rw [set_ints]
      rfl
    have e6 : eBin dMod (eCB dInt (aCons (eV 4) aNil)) (eV 1) [dat cs (gs.set j (gs[j] / t)) (k + 1), .int t, .int k, .int (j : Int), .int gs[j]] = .ok (.int (gs[j] % t)) [dat cs (gs.set j (gs[j] / t)) (k + 1), .int t, .int k, .int (j : Int), .int gs[j]] := eMod_ok (eInt_ok rfl) rfl h0
    refine ⟨gs[j] % t, _, ?_, Int.emod_nonneg _ (by omega), Int.emod_lt_of_pos _ h0, cs, gs.set j (gs[j] / t), k + 1, rfl, by omega, by omega, hc, by rw [List.length_set]; exact hg, hw⟩
    exact fnB_rt' (ρ' := [dat cs (gs.set j (gs[j] / t)) (k + 1), .int t, .int k, .int (j : Int), .int gs[j]]) ((sSeq_nx s0).trans ((sSeq_nx s1).trans ((sSeq_nx s2).trans ((sSeq_nx s3).trans (sSeq_rt ((sIf_t tg).trans ((sSeq_nx e5).trans (sRet_ok e6)))))))) rfl
  · rw [decide_eq_false hp] at tg
    obtain ⟨v, e4, v0, v1⟩ := mix_ok (c := cs[j]) (s := k) (hw _ (List.getElem_mem hjl)) ⟨k0, by omega⟩
    have e5 : eCall [none, none] (aCons (eBin dIx (eM 0 0) (eV 3)) (aCons (eV 2) aNil)) DMix [dat cs gs (k + 1), .int t, .int k, .int (j : Int), .int gs[j]] = .ok (.int v) [dat cs gs (k + 1), .int t, .int k, .int (j : Int), .int gs[j]] :=
      eCall_k [.int cs[j], .int k] (aCons_ok (eBin_ok (a := .list (cs.map .int)) (b := .int (j : Int)) rfl rfl (at_ints hjl)) rfl) e4 rfl
    have e6 : eBin dMod (eCB dInt (aCons (eBin dDiv (eCall [none, none] (aCons (eBin dIx (eM 0 0) (eV 3)) (aCons (eV 2) aNil)) DMix) (eK (.int 97))) aNil)) (eV 1) [dat cs gs (k + 1), .int t, .int k, .int (j : Int), .int gs[j]] = .ok (.int (v / 97 % t)) [dat cs gs (k + 1), .int t, .int k, .int (j : Int), .int gs[j]] :=
      eMod_ok (eInt_ok (eDiv_ok e5 rfl (by decide) ((Sm.of (n := 100) (by decide) (by decide)).up (by decide)))) rfl h0
    refine ⟨v / 97 % t, _, ?_, Int.emod_nonneg _ (by omega), Int.emod_lt_of_pos _ h0, cs, gs, k + 1, rfl, by omega, by omega, hc, hg, hw⟩
    exact fnB_rt' (ρ' := [dat cs gs (k + 1), .int t, .int k, .int (j : Int), .int gs[j]]) ((sSeq_nx s0).trans ((sSeq_nx s1).trans ((sSeq_nx s2).trans ((sSeq_nx s3).trans ((sSeq_nx (sIf_nil tg)).trans (sRet_ok e6)))))) rfl
theorem begQ_ok (ns : List Int) (hl : ns.length ≤ 63) (hb : ∀ z ∈ ns, Builtin.Int.intBits z ≤ 1048576) : ∃ m, DBegQ [.list (ns.map .int)] = .ok m [.list (ns.map .int)] ∧ QOk 0 m := by
  obtain ⟨cs, hcs, hc0, hcl, hcw⟩ : ∃ cs : List Int, eIf (eTst asB (eBin dNe (eV 0) (eLst aNil))) (eCB dList (aCons (eV 0) aNil)) (eLst (aCons (eK (.int 0)) aNil)) [.list (ns.map .int), .none, .none] = .ok (.list (cs.map .int)) [.list (ns.map .int), .none, .none] ∧ cs ≠ [] ∧ cs.length ≤ 63 ∧ ∀ c ∈ cs, Wd c := by
    cases ns with
    | nil => exact ⟨[0], (eIf_f (tB (g := dNe) (a := .list (([] : List Int).map .int)) (b := .list []) (r := false) rfl rfl (ne_nil []))).trans rfl, by simp, by decide, fun c h => by
        rw [List.mem_singleton] at h; subst h
        show (0 : Nat) < 2 ^ 1048576
        exact Nat.two_pow_pos _⟩
    | cons n ns => exact ⟨n :: ns, (eIf_t (tB (g := dNe) (a := .list ((n :: ns).map .int)) (b := .list []) (r := true) rfl rfl (ne_nil (n :: ns)))).trans rfl, by simp, hl, fun c h => .of_bits (hb c h)⟩
  have e2 : eLc [2] (iV (eV 1)) (gN 2) tYesD (eIf (eTst asB (eBin dGe (eV 2) (eBin dPow (eK (.int 10)) (eK (.int 18))))) (eV 2) (eK (.int 0))) [.list (ns.map .int), .list (cs.map .int), .none] = .ok (.list ((cs.map fun c => if 1000000000000000000 ≤ c then c else 0).map .int)) [.list (ns.map .int), .list (cs.map .int), .none] := by
    have q := eLc_go (vs := [2]) (fi := iV (eV 1)) (g := gN 2) (ft := tYesD) (fe := eIf (eTst asB (eBin dGe (eV 2) (eBin dPow (eK (.int 10)) (eK (.int 18))))) (eV 2) (eK (.int 0))) (ρ := [.list (ns.map .int), .list (cs.map .int), .none]) PyData.int (fun x => [.list (ns.map .int), .list (cs.map .int), x]) .none (fun _ => true) (fun c => .int (if 1000000000000000000 ≤ c then c else 0)) cs rfl (fun _ _ => rfl) (fun c _ => ⟨rfl, fun _ => ?_⟩) (fun _ => rfl) (by rw [sizeLine_eq]; omega)
    · rw [q, List.filter_eq_self.mpr (fun _ _ => rfl), List.map_map]
      rfl
    · have t : eTst asB (eBin dGe (eV 2) (eBin dPow (eK (.int 10)) (eK (.int 18)))) [.list (ns.map .int), .list (cs.map .int), .int c] = .ok (decide (1000000000000000000 ≤ c)) [.list (ns.map .int), .list (cs.map .int), .int c] :=
        tB (a := .int c) (b := .int 1000000000000000000) rfl (eBin_ok (a := .int 10) (b := .int 18) rfl rfl ten18) rfl
      by_cases hcc : 1000000000000000000 ≤ c
      · rw [decide_eq_true hcc] at t
        rw [if_pos hcc]
        exact (eIf_t t).trans rfl
      · rw [decide_eq_false hcc] at t
        rw [if_neg hcc]
        exact (eIf_f t).trans rfl
  refine ⟨dat cs (cs.map fun c => if 1000000000000000000 ≤ c then c else 0) 0, ?_, cs, _, 0, rfl, Int.le_refl _, Int.le_refl _, hc0, by rw [List.length_map], hcw⟩
  have e3 : sRetQ (eV 1) (eLc [2] (iV (eV 1)) (gN 2) tYesD (eIf (eTst asB (eBin dGe (eV 2) (eBin dPow (eK (.int 10)) (eK (.int 18))))) (eV 2) (eK (.int 0)))) 0 [.list (ns.map .int), .list (cs.map .int), .none] = .rt (dat cs (cs.map fun c => if 1000000000000000000 ≤ c then c else 0) 0) [.list (ns.map .int), .list (cs.map .int), .none] := by
    unfold sRetQ
    show (match eLc [2] (iV (eV 1)) (gN 2) tYesD (eIf (eTst asB (eBin dGe (eV 2) (eBin dPow (eK (.int 10)) (eK (.int 18))))) (eV 2) (eK (.int 0))) [.list (ns.map .int), .list (cs.map .int), .none] with
      | .ok d2 ρ2 => (match PyData.list (cs.map .int), d2 with
        | .list cs, .list gs => SR.rt (.tuple [.list cs, .list gs, .int 0]) ρ2
        | _, _ => .bad)
      | .ex c p ρ' => .ex c p ρ'
      | .bad => .bad) = _
    rw [e2]
    rfl
  exact fnB_rt' (ρ' := [.list (ns.map .int), .list (cs.map .int), .none]) ((sSeq_nx (sSet_ok (ρ' := [.list (ns.map .int), .none, .none]) hcs)).trans e3) rfl
end G

/-! G27: sorted whole numbers; repr of rows within rows; draws of the other record. -/
namespace G
open PySem PySem.Spec PyProof.Rows SP
open L2 hiding St Inv Binds
def insI (x : Int) : List Int → List Int
  | [] => [x]
  | y :: r => if y < x then y :: insI x r else x :: y :: r
def srtI : List Int → List Int
  | [] => []
  | x :: r => insI x (srtI r)
theorem insD_ints (x : Int) : ∀ l : List Int, G.insD (.int x) (l.map .int) = (insI x l).map .int
  | [] => rfl
  | y :: r => by
    show (if PySem.W.dataLt (.int y) (.int x) = true then PyData.int y :: G.insD (.int x) (r.map .int) else PyData.int x :: PyData.int y :: r.map .int) = _
    rw [PySem.W.dataLt_int, insD_ints x r, insI]
    by_cases h : y < x
    · rw [decide_eq_true h, if_pos rfl, if_pos h]; rfl
    · rw [decide_eq_false h, if_neg Bool.false_ne_true, if_neg h]; rfl
theorem srtD_ints : ∀ l : List Int, srtD (l.map .int) = (srtI l).map .int
  | [] => rfl
  | x :: r => by
    show G.insD (.int x) (srtD (r.map .int)) = _
    rw [srtD_ints r, insD_ints]
    rfl
theorem insI_perm (x : Int) : ∀ l : List Int, (insI x l).Perm (x :: l)
  | [] => .refl _
  | y :: r => by
    unfold insI
    split
    · exact ((insI_perm x r).cons y).trans (.swap x y r)
    · exact .refl _
theorem srtI_perm : ∀ l : List Int, (srtI l).Perm l
  | [] => .refl _
  | x :: r => (insI_perm x _).trans ((srtI_perm r).cons x)
theorem insI_le (x : Int) : ∀ l : List Int, l.Pairwise (· ≤ ·) → (insI x l).Pairwise (· ≤ ·)
  | [], _ => List.pairwise_singleton ..
  | y :: r, h => by
    obtain ⟨h1, h2⟩ := List.pairwise_cons.mp h
    unfold insI
    split
    · rename_i hy
      refine List.pairwise_cons.mpr ⟨fun z hz => ?_, insI_le x r h2⟩
      rcases List.mem_cons.mp ((insI_perm x r).mem_iff.mp hz) with rfl | hz
      · omega
      · exact h1 z hz
    · rename_i hy
      refine List.pairwise_cons.mpr ⟨fun z hz => ?_, h⟩
      rcases List.mem_cons.mp hz with rfl | hz
      · omega
      · have := h1 z hz; omega
theorem srtI_le : ∀ l : List Int, (srtI l).Pairwise (· ≤ ·)
  | [] => .nil
  | x :: r => insI_le x _ (srtI_le r)
theorem srtI_lt {l : List Int} (h : l.Nodup) : (srtI l).Pairwise (· < ·) := by
  have n : (srtI l).Nodup := (srtI_perm l).nodup_iff.mpr h
  exact (List.Pairwise.and (srtI_le l) n).imp fun {a b} z => by
    obtain ⟨z1, z2⟩ := z
    have : a ≠ b := z2
    omega
/-! ### repr -/
theorem tup_len {ds : List PyData} (h : ∀ d ∈ ds, Sml d) : (PyData.shown (.tuple ds)).length ≤ ds.length * 103 + 3 := by
  obtain ⟨a, b⟩ := sml_all h
  have e : PyData.shown (.tuple ds) = tupleText (PyData.shownAll ds) := by simp only [PyData.shown]
  have l := join_le 101 (PyData.shownAll ds) b
  rw [shownAll_len] at l
  rw [e]
  unfold tupleText
  rw [strLen_append, strLen_append]
  have l3 : (("(" : String) : PySem.Str).length = 1 := rfl
  have l4 : ((",)" : String) : PySem.Str).length = 2 := rfl
  have l5 : ((")" : String) : PySem.Str).length = 1 := rfl
  split <;> omega
/-- a tuple of few small ones, or a small one -/
def Sm2 : PyData → Prop
  | .tuple ds => (∀ d ∈ ds, Sml d) ∧ ds.length ≤ 90
  | d => Sml d
theorem Sm2.all {d : PyData} (h : Sm2 d) : PyData.plain d = true ∧ PyData.depth d ≤ 1 ∧ PyData.showable d = true ∧ d.shown.length ≤ 10000 := by
  have flatc : Sml d → PyData.plain d = true ∧ PyData.depth d ≤ 1 ∧ PyData.showable d = true ∧ d.shown.length ≤ 10000 := fun h => by
    obtain ⟨a, b⟩ := flat_plain h.flat
    exact ⟨a, by omega, h.show, Nat.le_trans h.len (by decide)⟩
  cases d with
  | tuple ds =>
    obtain ⟨h1, h2⟩ := h
    obtain ⟨a, b⟩ := flat_all fun d hd => (h1 d hd).flat
    refine ⟨a, ?_, ?_, ?_⟩
    · show PyData.depthAll ds + 1 ≤ 1
      rw [b]; exact Nat.le_refl _
    · simpa only [PyData.showable] using (sml_all h1).1
    · have := tup_len h1
      omega
  | none => exact flatc h
  | bool _ => exact flatc h
  | int _ => exact flatc h
  | str _ => exact flatc h
  | list _ => exact flatc h
  | dict _ => exact flatc h
theorem sm2_all : ∀ {ds : List PyData}, (∀ d ∈ ds, Sm2 d) → PyData.plainAll ds = true ∧ PyData.depthAll ds ≤ 1 ∧ PyData.showableAll ds = true ∧ ∀ t ∈ PyData.shownAll ds, t.length ≤ 10000
  | [], _ => ⟨rfl, Nat.zero_le _, rfl, fun _ h => nomatch h⟩
  | d :: ds, h => by
    obtain ⟨a, b, c, e⟩ := sm2_all fun e he => h e (List.mem_cons_of_mem _ he)
    obtain ⟨a', b', c', e'⟩ := (h d List.mem_cons_self).all
    refine ⟨?_, ?_, ?_, fun t ht => ?_⟩
    · show (PyData.plain d && PyData.plainAll ds) = true
      rw [a, a']; rfl
    · show max (PyData.depth d) (PyData.depthAll ds) ≤ 1
      omega
    · show (PyData.showable d && PyData.showableAll ds) = true
      rw [c, c']; rfl
    · have ht : t ∈ d.shown :: PyData.shownAll ds := by simpa only [PyData.shownAll] using ht
      rcases List.mem_cons.mp ht with rfl | ht
      · exact e'
      · exact e t ht
theorem okR_list2 {ds : List PyData} (h : ∀ d ∈ ds, Sm2 d) (hl : ds.length ≤ 1000) : okR (.list ds) = true := by
  obtain ⟨a, b, c, e⟩ := sm2_all h
  have o : okD (.list ds) = true := by
    unfold okD
    have h1 : PyData.plain (.list ds) = true := a
    have h2 : PyData.depth (.list ds) ≤ 60 := by show PyData.depthAll ds + 1 ≤ 60; omega
    rw [h1, decide_eq_true h2]; rfl
  unfold okR
  rw [o, show PyData.showable (.list ds) = true from by simpa only [PyData.showable] using c]
  have es : PyData.shown (.list ds) = listText (PyData.shownAll ds) := by simp only [PyData.shown]
  have l := textFrom_le 10000 (PyData.shownAll ds) 0 "[" e
  rw [shownAll_len] at l
  have l2 : (listText (PyData.shownAll ds)).length = (textFrom 0 "[" (PyData.shownAll ds)).length + 1 := by
    show (textFrom 0 "[" (PyData.shownAll ds) ++ "]").length = _
    rw [strLen_append]; rfl
  have l3 : (("[" : String) : PySem.Str).length = 1 := rfl
  rw [es, decide_eq_true (by rw [l2, sizeLine_eq]; omega)]
  rfl
theorem dEq_str (x : PySem.Str) : dEq (.str x) (.str x) = some (.bool true) := by
  unfold dEq
  rw [if_pos ⟨okD_flat rfl, okD_flat rfl⟩, eqv_refl_flat rfl]
theorem dRepr_ok {d : PyData} (h : okR d = true) : dRepr [d] = some (.str d.shown) := if_pos h
/-! ### one of some -/
def QNext (D : M PyData) : Prop := ∀ (b : Nat) (m : PyData) (t : Int), QOk b m → b < 2 ^ 90 → 0 < t → t < 2 ^ 1000 → ∃ r m', D [m, .int t] = .ok (.int r) [m', .int t] ∧ 0 ≤ r ∧ r < t ∧ QOk (b + 1) m'
theorem draw_N : QNext DDraw := fun _ _ _ hm hb h0 h1 => draw_ok hm hb h0 h1
theorem of_ofQ {D : M PyData} (h : QNext D) {b : Nat} {m : PyData} {ds : List PyData} (hm : QOk b m) (hb : b < 2 ^ 90) (h0 : ds ≠ []) (hl : ds.length ≤ 1000) : ∃ d m', DO D [m, .list ds] = .ok d [m', .list ds] ∧ d ∈ ds ∧ QOk (b + 1) m' := by
  have hp : 0 < ds.length := List.length_pos_iff.mpr h0
  have e10 : (1000 : Int) < 2 ^ 1000 := by decide +kernel
  obtain ⟨r, m', e, r0, r1, h'⟩ := h b m (ds.length : Nat) hm hb (by omega) (by omega)
  refine ⟨_, m', of_ok e r0 r1, ?_, h'⟩
  have hr : r.toNat < ds.length := by omega
  rw [List.getD_eq_getElem?_getD, List.getElem?_eq_getElem hr]
  exact List.getElem_mem hr
theorem sPutL_ok {i : Nat} {fv fk : M PyData} {ρ ρ1 ρ2 : Ev} {d : PyData} {k : Int} {ds : List PyData} {j : Nat} (hv : fv ρ = .ok d ρ1) (hk : fk ρ1 = .ok (.int k) ρ2) (h : ρ2[i]? = some (.list ds)) (hj : ixN ds.length k = some j) : sPutL i fv fk ρ = .nx (ρ2.set i (.list (ds.set j d))) := by
  unfold sPutL
  rw [hv]
  dsimp only
  rw [hk]
  dsimp only
  rw [h]
  dsimp only
  rw [hj]
end G

/-! G28: line rules in the long run: behind the last missing one ticks come again, a step further. -/
namespace SP
section
variable {line gone : List Nat} {R : Nat}
/-! ### who is missing later does not matter -/
theorem T_congr (hl : ∀ f ∈ line, 1 ≤ f) {gone' : List Nat} : ∀ (m n : Nat), n < m → (∀ k, k ≤ n → (k ∈ gone ↔ k ∈ gone')) → T line gone n = T line gone' n
  | 0, _, h, _ => absurd h (Nat.not_lt_zero _)
  | m + 1, 0, _, _ => rfl
  | m + 1, n + 1, h, hg => by
    rw [T_succ hl, T_succ hl]
    unfold nxt
    have e : cands (T line gone) (n + 1) 0 line = cands (T line gone') (n + 1) 0 line := cands_congr 0 line fun f hf => Z_congr (hl f hf) fun j hj => T_congr hl m j (by omega) fun k hk => hg k (by omega)
    rw [e]
    by_cases h1 : n + 1 ∈ gone
    · rw [if_pos h1, if_pos ((hg _ (Nat.le_refl _)).1 h1)]
    · rw [if_neg h1, if_neg fun z => h1 ((hg _ (Nat.le_refl _)).2 z)]
/-! ### callers -/
theorem cands_mem {t : Nat → OI} {k f d i : Nat} {y : Int} : ∀ {l : List Nat}, l[d]? = some f → Z t k f = some y → y + ((i + d : Nat) : Int) + 1 ∈ cands t k i l
  | [], h, _ => by simp at h
  | g :: r, h, hz => by
    rw [cands, List.mem_append]
    cases d with
    | zero =>
      have : g = f := by simpa using h
      subst this
      left
      rw [hz]
      show y + ((i + 0 : Nat) : Int) + 1 ∈ [y + (i : Int) + 1]
      simp
    | succ d =>
      right
      have q := cands_mem (i := i + 1) (d := d) (l := r) (by simpa using h) hz
      rw [show i + (d + 1) = i + 1 + d by omega]
      exact q
theorem mem_candsI {t : Nat → OI} {k : Nat} {x : Int} : ∀ {i : Nat} {l : List Nat}, x ∈ cands t k i l → ∃ (f d : Nat) (y : Int), l[d]? = some f ∧ Z t k f = some y ∧ x = y + ((i + d : Nat) : Int) + 1
  | _, [], h => nomatch h
  | i, f :: r, h => by
    rw [cands, List.mem_append] at h
    rcases h with h | h
    · cases e : Z t k f with
      | none => rw [e] at h; cases h
      | some y =>
        rw [e] at h
        have : x = y + i + 1 := by simpa [cell] using h
        exact ⟨f, 0, y, rfl, e, by rw [this, Nat.add_zero]⟩
    · obtain ⟨f', d, y, h1, h2, h3⟩ := mem_candsI h
      exact ⟨f', d + 1, y, by simpa using h1, h2, by rw [h3, show i + 1 + d = i + (d + 1) by omega]⟩
/-- a call comes through -/
theorem T_up (hl : ∀ f ∈ line, 1 ≤ f) {k f d : Nat} {y : Int} (hd : line[d]? = some f) (hf : f ≤ k) (hg : k ∉ gone) (h : T line gone (k - f) = some y) : ∃ x, T line gone k = some x ∧ x ≤ y + (d : Int) + 1 := by
  have h1 := hl f (List.mem_of_getElem? hd)
  obtain ⟨n, rfl⟩ : ∃ n, k = n + 1 := ⟨k - 1, by omega⟩
  have hz : Z (T line gone) (n + 1) f = some y := by unfold Z; rw [if_pos hf]; exact h
  have hm := cands_mem (i := 0) hd hz
  rw [Nat.zero_add] at hm
  rw [T_succ hl]
  unfold nxt
  rw [if_neg hg]
  cases e : minL (cands (T line gone) (n + 1) 0 line) with
  | none => rw [minL_none e] at hm; cases hm
  | some x => exact ⟨x, rfl, (minL_mem e).2 _ hm⟩
/-- who is told is called -/
theorem T_down (hl : ∀ f ∈ line, 1 ≤ f) {k : Nat} {x : Int} (hk : 1 ≤ k) (h : T line gone k = some x) : ∃ (f d : Nat) (y : Int), line[d]? = some f ∧ f ≤ k ∧ T line gone (k - f) = some y ∧ x = y + (d : Int) + 1 := by
  obtain ⟨n, rfl⟩ : ∃ n, k = n + 1 := ⟨k - 1, by omega⟩
  rw [T_succ hl] at h
  unfold nxt at h
  split at h
  · cases h
  · obtain ⟨f, d, y, h1, h2, h3⟩ := mem_candsI (minL_mem h).1
    unfold Z at h2
    split at h2
    · exact ⟨f, d, y, h1, by assumption, h2, by rw [h3, Nat.zero_add]⟩
    · cases h2
/-! ### the step that costs least -/
structure Star (line : List Nat) (fs ds : Nat) : Prop where
  at_ : line[ds]? = some fs
  least : ∀ (f d : Nat), line[d]? = some f → (ds + 1) * f ≤ fs * (d + 1)
theorem star_ex : ∀ {line : List Nat}, line ≠ [] → (∀ f ∈ line, 1 ≤ f) → ∃ fs ds, Star line fs ds
  | [], h, _ => absurd rfl h
  | [f], _, _ => ⟨f, 0, rfl, fun g d h => by
      cases d with
      | zero => have : f = g := by simpa using h
                subst this; omega
      | succ d => simp at h⟩
  | f :: g :: r, _, h1 => by
    -- over the whole list by the number of steps
    have key : ∀ n : Nat, 1 ≤ n → ∃ fs ds, (f :: g :: r)[ds]? = some fs ∧ ∀ (f' d : Nat), d < n → (f :: g :: r)[d]? = some f' → (ds + 1) * f' ≤ fs * (d + 1) := by
      intro n
      induction n with
      | zero => intro h; omega
      | succ n ih =>
        intro _
        by_cases hn : n = 0
        · subst hn
          refine ⟨f, 0, rfl, fun f' d hd h => ?_⟩
          have : d = 0 := by omega
          subst this
          have : f = f' := by simpa using h
          subst this; omega
        · obtain ⟨fs, ds, a, b⟩ := ih (by omega)
          cases e : (f :: g :: r)[n]? with
          | none =>
            refine ⟨fs, ds, a, fun f' d hd h => ?_⟩
            by_cases hd2 : d = n
            · subst hd2; rw [e] at h; cases h
            · exact b f' d (by omega) h
          | some q =>
            by_cases hq : (ds + 1) * q ≤ fs * (n + 1)
            · refine ⟨fs, ds, a, fun f' d hd h => ?_⟩
              by_cases hd2 : d = n
              · subst hd2; rw [e] at h; cases h; exact hq
              · exact b f' d (by omega) h
            · refine ⟨q, n, e, fun f' d hd h => ?_⟩
              by_cases hd2 : d = n
              · subst hd2; rw [e] at h; cases h
                exact Nat.le_of_eq (Nat.mul_comm _ _)
              · have hb := b f' d (by omega) h
                have hq : fs * (n + 1) < (ds + 1) * q := by omega
                have hs : 1 ≤ fs := h1 fs (List.mem_of_getElem? a)
                -- (n+1) f' <= q (d+1)
                by_cases z : (n + 1) * f' ≤ q * (d + 1)
                · exact z
                · have z : q * (d + 1) < (n + 1) * f' := by omega
                  have m1 : (ds + 1) * f' * (n + 1) ≤ fs * (d + 1) * (n + 1) := Nat.mul_le_mul_right _ hb
                  have m2 : fs * (n + 1) * (d + 1) < (ds + 1) * q * (d + 1) := Nat.mul_lt_mul_of_pos_right hq (by omega)
                  have m3 : (ds + 1) * (q * (d + 1)) < (ds + 1) * ((n + 1) * f') := Nat.mul_lt_mul_of_pos_left z (by omega)
                  have e1 : (ds + 1) * f' * (n + 1) = (ds + 1) * ((n + 1) * f') := by rw [Nat.mul_assoc, Nat.mul_comm f']
                  have e2 : fs * (d + 1) * (n + 1) = fs * (n + 1) * (d + 1) := by rw [Nat.mul_assoc, Nat.mul_assoc, Nat.mul_comm (d + 1)]
                  have e3 : (ds + 1) * q * (d + 1) = (ds + 1) * (q * (d + 1)) := Nat.mul_assoc _ _ _
                  omega
    obtain ⟨fs, ds, a, b⟩ := key ((f :: g :: r).length) (by simp)
    exact ⟨fs, ds, a, fun f' d h => b f' d (List.getElem?_eq_some_iff.mp h).1 h⟩
variable {fs ds : Nat}
/-- how much later than by the cheapest step alone -/
def V (fs ds : Nat) (k : Nat) (x : Int) : Int := (fs : Int) * x - ((ds + 1 : Nat) : Int) * (k : Int)
theorem V_call (S : Star line fs ds) {k f d : Nat} {y : Int} (hd : line[d]? = some f) (hf : f ≤ k) : V fs ds (k - f) y ≤ V fs ds k (y + (d : Int) + 1) := by
  have h := S.least f d hd
  unfold V
  have e1 : (fs : Int) * (y + (d : Int) + 1) = (fs : Int) * y + (fs : Int) * ((d + 1 : Nat) : Int) := by
    rw [← Int.mul_add]
    congr 1
    omega
  have e2 : ((ds + 1 : Nat) : Int) * (k : Int) = ((ds + 1 : Nat) : Int) * ((k - f : Nat) : Int) + ((ds + 1 : Nat) : Int) * (f : Int) := by
    rw [← Int.mul_add]
    congr 1
    omega
  have e3 : ((ds + 1 : Nat) : Int) * (f : Int) ≤ (fs : Int) * ((d + 1 : Nat) : Int) := by
    rw [← Int.natCast_mul, ← Int.natCast_mul]
    exact_mod_cast h
  rw [e1, e2]
  omega
theorem V_star {k : Nat} {y : Int} (hf : fs ≤ k) : V fs ds k (y + (ds : Int) + 1) = V fs ds (k - fs) y := by
  unfold V
  have e1 : (fs : Int) * (y + (ds : Int) + 1) = (fs : Int) * y + (fs : Int) * ((ds + 1 : Nat) : Int) := by
    rw [← Int.mul_add]
    congr 1
    omega
  have e2 : ((ds + 1 : Nat) : Int) * (k : Int) = ((ds + 1 : Nat) : Int) * ((k - fs : Nat) : Int) + ((ds + 1 : Nat) : Int) * (fs : Int) := by
    rw [← Int.mul_add]
    congr 1
    omega
  have e3 : (fs : Int) * ((ds + 1 : Nat) : Int) = ((ds + 1 : Nat) : Int) * (fs : Int) := Int.mul_comm _ _
  rw [e1, e2]
  omega
theorem V_mono {k : Nat} {x y : Int} (h : x ≤ y) : V fs ds k x ≤ V fs ds k y := by
  unfold V
  have := Int.mul_le_mul_of_nonneg_left h (show (0 : Int) ≤ (fs : Int) by omega)
  omega
theorem V_inj {k : Nat} {x y : Int} (hs : 1 ≤ fs) (h : V fs ds k x = V fs ds k y) : x = y := by
  unfold V at h
  have e : (fs : Int) * x = (fs : Int) * y := by omega
  exact Int.eq_of_mul_eq_mul_left (by omega) e
theorem V_pos (hl : ∀ f ∈ line, 1 ≤ f) (S : Star line fs ds) : ∀ (m k : Nat) (x : Int), k < m → T line gone k = some x → 0 ≤ V fs ds k x
  | 0, _, _, h, _ => absurd h (Nat.not_lt_zero _)
  | m + 1, 0, x, _, h => by
    rw [T_zero] at h
    cases h
    unfold V
    simp
  | m + 1, k + 1, x, hk, h => by
    obtain ⟨f, d, y, h1, h2, h3, rfl⟩ := T_down hl (by omega) h
    have hf := hl f (List.mem_of_getElem? h1)
    exact Int.le_trans (V_pos hl S m (k + 1 - f) y (by omega) h3) (V_call S h1 h2)
/-- on by the cheapest step -/
theorem star_next (hl : ∀ f ∈ line, 1 ≤ f) (S : Star line fs ds) {k : Nat} {y : Int} (hf : fs ≤ k) (hg : k ∉ gone) (h : T line gone (k - fs) = some y) : ∃ x, T line gone k = some x ∧ V fs ds k x ≤ V fs ds (k - fs) y := by
  obtain ⟨x, h1, h2⟩ := T_up hl S.at_ hf hg h
  exact ⟨x, h1, by rw [← V_star hf]; exact V_mono h2⟩
/-! ### from n0 on nobody is missing -/
/-- the least one of its class, behind n0, that is as early as it gets -/
structure Fst (line gone : List Nat) (n0 fs ds k : Nat) (v : Int) : Prop where
  gt : n0 < k
  vx : ∃ x, T line gone k = some x ∧ V fs ds k x = v
  min : ∀ (k' : Nat) (x : Int), n0 < k' → k' % fs = k % fs → T line gone k' = some x → v ≤ V fs ds k' x
  fst : ∀ (k' : Nat) (x : Int), n0 < k' → k' % fs = k % fs → T line gone k' = some x → V fs ds k' x = v → k ≤ k'
theorem least_nat {P : Nat → Prop} : ∀ (n : Nat), P n → ∃ m, P m ∧ ∀ j, P j → m ≤ j := by
  intro n
  induction n using Nat.strongRecOn with
  | _ n ih =>
    intro h
    by_cases hx : ∃ j, j < n ∧ P j
    · obtain ⟨j, hj, hp⟩ := hx
      exact ih j hj hp
    · exact ⟨n, h, fun j hp => by
        by_cases z : n ≤ j
        · exact z
        · exact absurd ⟨j, by omega, hp⟩ hx⟩
theorem fst_ex (hl : ∀ f ∈ line, 1 ≤ f) (S : Star line fs ds) {n0 k : Nat} {x : Int} (hk : n0 < k) (h : T line gone k = some x) : ∃ k' v, k' % fs = k % fs ∧ Fst line gone n0 fs ds k' v := by
  obtain ⟨v, ⟨k1, x1, a1, a2, a3, a4⟩, hv⟩ := least_nat (P := fun v => ∃ k' x, n0 < k' ∧ k' % fs = k % fs ∧ T line gone k' = some x ∧ V fs ds k' x = (v : Int)) (V fs ds k x).toNat ⟨k, x, hk, rfl, h, by have := V_pos hl S (k + 1) k x (Nat.lt_succ_self _) h; omega⟩
  obtain ⟨k2, ⟨x2, b1, b2, b3, b4⟩, hk2⟩ := least_nat (P := fun k' => ∃ x, n0 < k' ∧ k' % fs = k % fs ∧ T line gone k' = some x ∧ V fs ds k' x = (v : Int)) k1 ⟨x1, a1, a2, a3, a4⟩
  refine ⟨k2, v, b2, b1, ⟨x2, b3, b4⟩, fun k' x' c1 c2 c3 => ?_, fun k' x' c1 c2 c3 c4 => hk2 k' ⟨x', c1, c2.trans b2, c3, c4⟩⟩
  have c4 := V_pos hl S (k' + 1) k' x' (Nat.lt_succ_self _) c3
  have := hv (V fs ds k' x').toNat ⟨k', x', c1, c2.trans b2, c3, by omega⟩
  omega
theorem fst_eq {n0 k k' : Nat} {v v' : Int} (a : Fst line gone n0 fs ds k v) (b : Fst line gone n0 fs ds k' v') (h : k % fs = k' % fs) : k = k' := by
  obtain ⟨x, a1, a2⟩ := a.vx
  obtain ⟨y, b1, b2⟩ := b.vx
  have h1 := a.min k' y b.gt h.symm b1
  have h2 := b.min k x a.gt h a1
  have e : v = v' := by omega
  subst e
  have := a.fst k' y b.gt h.symm b1 b2
  have := b.fst k x a.gt h a1 a2
  omega
/-- a caller behind n0 of a first one is a first one -/
theorem fst_call (g : Good line R) (S : Star line fs ds) {n0 k : Nat} {v : Int} (hfree : ∀ j, n0 < j → j ∉ gone) (F : Fst line gone n0 fs ds k v) (hk : n0 + R < k) : ∃ k' v', k' < k ∧ k ≤ k' + R ∧ Fst line gone n0 fs ds k' v' := by
  have hl : ∀ f ∈ line, 1 ≤ f := fun f hf => (g.f f hf).1
  obtain ⟨x, h1, h2⟩ := F.vx
  obtain ⟨f, d, y, c1, c2, c3, c4⟩ := T_down hl (by omega) h1
  have hf := g.f f (List.mem_of_getElem? c1)
  -- the first one of the caller's class
  obtain ⟨k', v', e1, F'⟩ := fst_ex hl S (n0 := n0) (k := k - f) (by omega) c3
  obtain ⟨z, d1, d2⟩ := F'.vx
  have hs : k - f + f = k := by omega
  -- it calls one of k's class
  obtain ⟨u, u1, u2⟩ := T_up hl (k := k' + f) c1 (by omega) (hfree _ (by have := F'.gt; omega)) (by rw [show k' + f - f = k' by omega]; exact d1)
  have cls : (k' + f) % fs = k % fs := by
    rw [Nat.add_mod, e1, ← Nat.add_mod, hs]
  have v1 : v ≤ V fs ds (k' + f) u := F.min _ u (by have := F'.gt; omega) cls u1
  have v2 : V fs ds (k' + f) u ≤ V fs ds (k' + f) (z + (d : Int) + 1) := V_mono u2
  -- the same excess by the same step
  have ex : ∀ (p : Nat) (w : Int), V fs ds (p + f) (w + (d : Int) + 1) = V fs ds p w + ((fs : Int) * ((d + 1 : Nat) : Int) - ((ds + 1 : Nat) : Int) * (f : Int)) := fun p w => by
    unfold V
    have e1 : (fs : Int) * (w + (d : Int) + 1) = (fs : Int) * w + (fs : Int) * ((d + 1 : Nat) : Int) := by
      rw [← Int.mul_add]
      congr 1
      omega
    have e2 : ((ds + 1 : Nat) : Int) * ((p + f : Nat) : Int) = ((ds + 1 : Nat) : Int) * (p : Int) + ((ds + 1 : Nat) : Int) * (f : Int) := by
      rw [← Int.mul_add]
      congr 1
    rw [e1, e2]
    omega
  have q1 := ex (k - f) y
  rw [hs, ← c4, h2] at q1
  have q2 := ex k' z
  rw [d2] at q2
  have q3 := F'.min (k - f) y (by omega) e1.symm c3
  have q4 : V fs ds (k' + f) u = v := by omega
  have q5 : V fs ds (k - f) y = v' := by omega
  have l1 := F.fst (k' + f) u (by have := F'.gt; omega) cls u1 q4
  have l2 := F'.fst (k - f) y (by omega) e1.symm c3 q5
  exact ⟨k', v', by omega, by omega, F'⟩
theorem nodup_lt : ∀ (n : Nat) (l : List Nat), l.Nodup → (∀ x ∈ l, x < n) → l.length ≤ n
  | 0, [], _, _ => Nat.le_refl _
  | 0, x :: l, _, h => absurd (h x List.mem_cons_self) (Nat.not_lt_zero _)
  | n + 1, l, hn, h => by
    have e : (l.filter fun x => decide (x ≠ n)).length ≤ n := nodup_lt n _ (hn.filter _) fun x hx => by
      obtain ⟨a, b⟩ := List.mem_filter.mp hx
      have := h x a
      have : x ≠ n := by simpa using b
      omega
    have key : ∀ l : List Nat, l.Nodup → l.length ≤ (l.filter fun x => decide (x ≠ n)).length + 1 := by
      intro l
      induction l with
      | nil => intro _; exact Nat.zero_le _
      | cons y r ih =>
        intro hr
        obtain ⟨a, b⟩ := List.nodup_cons.mp hr
        by_cases hy : y = n
        · subst hy
          rw [List.filter_cons_of_neg (by simp)]
          have : r.filter (fun x => decide (x ≠ y)) = r := List.filter_eq_self.mpr fun x hx => by
            simp only [decide_eq_true_eq]
            intro z
            exact a (z ▸ hx)
          rw [this, List.length_cons]
          exact Nat.le_refl _
        · rw [List.filter_cons_of_pos (by simpa using hy), List.length_cons, List.length_cons]
          have := ih b
          omega
    have := key l hn
    omega
theorem chain (g : Good line R) (S : Star line fs ds) {n0 : Nat} (hfree : ∀ j, n0 < j → j ∉ gone) : ∀ (i k : Nat) (v : Int), Fst line gone n0 fs ds k v → n0 + R * i < k → ∃ l : List Nat, l.length = i + 1 ∧ (∀ j ∈ l, j ≤ k ∧ ∃ w, Fst line gone n0 fs ds j w) ∧ l.Nodup
  | 0, k, v, F, _ => ⟨[k], rfl, fun j hj => by rw [List.mem_singleton] at hj; subst hj; exact ⟨Nat.le_refl _, v, F⟩, by simp⟩
  | i + 1, k, v, F, h => by
    have e : R * (i + 1) = R * i + R := Nat.mul_succ _ _
    obtain ⟨k', v', h1, h2, F'⟩ := fst_call g S hfree F (by omega)
    obtain ⟨l, a, b, c⟩ := chain g S hfree i k' v' F' (by omega)
    refine ⟨k :: l, by rw [List.length_cons, a], fun j hj => ?_, List.nodup_cons.mpr ⟨fun z => ?_, c⟩⟩
    · rcases List.mem_cons.mp hj with rfl | hj
      · exact ⟨Nat.le_refl _, v, F⟩
      · obtain ⟨x, y⟩ := b j hj
        exact ⟨by omega, y⟩
    · have := (b k z).1
      omega
/-- first ones come soon -/
theorem fst_soon (g : Good line R) (S : Star line fs ds) {n0 k : Nat} {v : Int} (hfree : ∀ j, n0 < j → j ∉ gone) (F : Fst line gone n0 fs ds k v) : k ≤ n0 + R * fs := by
  by_cases h : k ≤ n0 + R * fs
  · exact h
  · obtain ⟨l, a, b, c⟩ := chain g S hfree fs k v F (by omega)
    have hs : 1 ≤ fs := (g.f fs (List.mem_of_getElem? S.at_)).1
    have nd : (l.map fun j => j % fs).Nodup := by
      rw [List.nodup_iff_pairwise_ne, List.pairwise_map]
      refine List.Pairwise.imp_of_mem ?_ c
      intro p q hp hq hne z
      obtain ⟨_, w, Fp⟩ := b p hp
      obtain ⟨_, w', Fq⟩ := b q hq
      exact hne (fst_eq Fp Fq z)
    have := nodup_lt fs _ nd fun x hx => by
      obtain ⟨j, _, rfl⟩ := List.mem_map.mp hx
      exact Nat.mod_lt _ (by omega)
    rw [List.length_map, a] at this
    omega
/-- behind a first one the class goes on by the cheapest step alone -/
theorem fst_on (g : Good line R) (S : Star line fs ds) {n0 k : Nat} {v : Int} (hfree : ∀ j, n0 < j → j ∉ gone) (F : Fst line gone n0 fs ds k v) : ∀ i : Nat, ∃ x, T line gone (k + i * fs) = some x ∧ V fs ds (k + i * fs) x = v
  | 0 => by
    rw [Nat.zero_mul, Nat.add_zero]
    exact F.vx
  | i + 1 => by
    have hl : ∀ f ∈ line, 1 ≤ f := fun f hf => (g.f f hf).1
    obtain ⟨y, h1, h2⟩ := fst_on g S hfree F i
    have e : k + (i + 1) * fs - fs = k + i * fs := by rw [Nat.add_mul, Nat.one_mul]; omega
    have hle : fs ≤ k + (i + 1) * fs := by rw [Nat.add_mul, Nat.one_mul]; omega
    have hgt : n0 < k + (i + 1) * fs := by have := F.gt; omega
    obtain ⟨x, a, b⟩ := star_next hl S hle (hfree _ hgt) (by rw [e]; exact h1)
    rw [e, h2] at b
    refine ⟨x, a, ?_⟩
    have := F.min (k + (i + 1) * fs) x hgt (by rw [Nat.add_mul_mod_self_right]) a
    omega
/-- the long run: ticks come again, a step further -/
theorem steady (g : Good line R) (S : Star line fs ds) {n0 : Nat} (hfree : ∀ j, n0 < j → j ∉ gone) {k : Nat} (hk : n0 + R * fs + fs ≤ k) : T line gone k = oA ((ds + 1 : Nat) : Int) (T line gone (k - fs)) := by
  have hl : ∀ f ∈ line, 1 ≤ f := fun f hf => (g.f f hf).1
  have hs : 1 ≤ fs := hl fs (List.mem_of_getElem? S.at_)
  have hR : fs ≤ R := (g.f fs (List.mem_of_getElem? S.at_)).2
  have hRf : R ≤ R * fs := Nat.le_mul_of_pos_right _ hs
  cases e : T line gone k with
  | some x =>
    obtain ⟨k', v, e1, F⟩ := fst_ex hl S (n0 := n0) (k := k) (by omega) e
    have hsoon := fst_soon g S hfree F
    -- k = k' + i fs
    obtain ⟨i, hi⟩ : ∃ i, k = k' + (i + 1) * fs := by
      have d1 := Nat.div_add_mod k fs
      have d2 := Nat.div_add_mod k' fs
      rw [e1] at d2
      have hq : k' / fs < k / fs := by
        by_cases z : k' / fs < k / fs
        · exact z
        · have : fs * (k / fs) ≤ fs * (k' / fs) := Nat.mul_le_mul_left _ (by omega)
          omega
      refine ⟨k / fs - k' / fs - 1, ?_⟩
      have e3 : (k / fs - k' / fs - 1 + 1) * fs = fs * (k / fs) - fs * (k' / fs) := by
        rw [show k / fs - k' / fs - 1 + 1 = k / fs - k' / fs by omega, Nat.mul_comm, Nat.mul_sub]
      have : fs * (k' / fs) ≤ fs * (k / fs) := Nat.mul_le_mul_left _ (by omega)
      omega
    obtain ⟨y, a1, a2⟩ := fst_on g S hfree F i
    obtain ⟨z, b1, b2⟩ := fst_on g S hfree F (i + 1)
    rw [← hi] at b1 b2
    rw [e] at b1
    cases b1
    have e4 : k - fs = k' + i * fs := by rw [hi, Nat.add_mul, Nat.one_mul]; omega
    rw [e4, a1]
    show some x = some (y + ((ds + 1 : Nat) : Int))
    congr 1
    have e5 := V_star (fs := fs) (ds := ds) (k := k) (y := y) (by omega)
    rw [e4, a2, ← b2] at e5
    have := V_inj hs e5
    omega
  | none =>
    cases e2 : T line gone (k - fs) with
    | none => rfl
    | some y =>
      obtain ⟨x, a, _⟩ := star_next hl S (by omega) (hfree _ (by omega)) e2
      rw [e] at a
      cases a
end
end SP

/-! G29: three at once, the second one owned. -/
namespace G
open PySem PySem.Spec PyProof.Rows
open L2 hiding St Inv Binds
def sPar3 (i j l : Nat) (fa fb fc : M PyData) : MS := fun ρ => match fa ρ with
  | .ok d ρ1 => (match fb ρ1 with
    | .ok e ρ2 => (match fc ρ2 with
      | .ok k ρ3 => .nx (((ρ3.set i d).set j e).set l k)
      | .ex c p ρ' => .ex c p ρ'
      | .bad => .bad)
    | .ex c p ρ' => .ex c p ρ'
    | .bad => .bad)
  | .ex c p ρ' => .ex c p ρ'
  | .bad => .bad
theorem qs_par3 {X : Cx} {J : Jx} {κ : List SK} {pa pb pc : Bool} {fa fb fc : M PyData} {o : OP} {i j l : Nat} {x y z : Str} {a b c : Expr} {pos px py pz pt : Pos} {kt k2 pt2} (hc : X.calm = true) (hN : X.N.Nodup) (hi : X.N[i]? = some x) (hj : X.N[j]? = some y) (hl : X.N[l]? = some z) (hij : i ≠ j) (hil0 : i ≠ l) (hjl0 : j ≠ l)
    (hx : X.env.scope.names.lookup x = some .local) (hy : X.env.scope.names.lookup y = some .local) (hz : X.env.scope.names.lookup z = some .local) (ha : QE X κ J.W pa .sh a fa) (hb : QE X κ J.W pb (.ow o) b fb) (hcc : QE X κ J.W pc .sh c fc) (wx : Wk κ J.κx)
    (hw : swappedStores [.Tuple [.Name x px, .Name y py, .Name z pz] kt pt] (.Tuple [a, b, c] k2 pt2) X.env = pure (some [x, y, z])) (hil : i < κ.length := by first | decide | simp) (hjl : j < (κ.set i .sh).length := by first | decide | simp) (hll : l < ((κ.set i .sh).set j (.ow (fun _ => True) o)).length := by first | decide | simp)
    (hs : swapsWithSole [.Tuple [.Name x px, .Name y py, .Name z pz] kt pt] (.Tuple [a, b, c] k2 pt2) pos.line X.env = pure false := by rfl)
    (t1 : starEach [a, b, c] X.env = (false, eval a X.env) :: starEach [b, c] X.env := by rfl) (t2 : starEach [b, c] X.env = (false, eval b X.env) :: starEach [c] X.env := by rfl) (t3 : starEach [c] X.env = (false, eval c X.env) :: starEach [] X.env := by rfl) :
    QS X J κ (((κ.set i .sh).set j (.ow (fun _ => True) o)).set l .sh) (.Assign [.Tuple [.Name x px, .Name y py, .Name z pz] kt pt] (.Tuple [a, b, c] k2 pt2) pos) (sPar3 i j l fa fb fc) := by
  refine PS.imp (ps_par3 hc hN hi hj hl hij hil0 hjl0 hx hy hz (pa_cons ha (pa_cons hb (pa_cons hcc pa_nil t3) t2) t1) hw hs) fun D σ H ⟨ρ, G, fr, h⟩ => ⟨ρ, G, fr, ?_⟩
  unfold sPar3 at h
  cases e1 : fa ρ with
  | bad => rw [e1] at h; exact h
  | ex c p ρ' => rw [e1] at h; exact fun cls dd H' G' x f' r' => h cls dd σ H' G' x (f'.weak wx) (r'.sub fun b z => z.weak wx)
  | ok d ρ1 =>
    rw [e1] at h
    intro v H1 G1 F1 f1 r1 s1 ok1 n1
    dsimp only at h
    refine ⟨ρ1, G1, f1, ?_⟩
    cases e2 : fb ρ1 with
    | bad => rw [e2] at h; exact h
    | ex c p ρ' => rw [e2] at h; exact fun cls dd H' G' x f' r' => h cls dd σ H' G' x (f'.weak wx) ((r1.trans r').sub fun b z => z.weak wx)
    | ok e ρ2 =>
      rw [e2] at h
      intro w H2 G2 F2 f2 r2 s2 ok2 n2
      dsimp only at h
      refine ⟨ρ2, G2, f2, ?_⟩
      cases e3 : fc ρ2 with
      | bad => rw [e3] at h; exact h
      | ex c p ρ' => rw [e3] at h; exact fun cls dd H' G' x f' r' => h cls dd σ H' G' x (f'.weak wx) (((r1.trans r2).trans r').sub fun b z => z.weak wx)
      | ok k ρ3 =>
        rw [e3] at h
        intro u H3 G3 F3 f3 r3 s3 ok3 n3
        dsimp only at h
        have ok2' : ResOk X.K (.ow o) H3 w e F2 := ok2.after f2 (pu := pc) rfl r3 s3 fun b hb => (n2 b hb).2
        have m2 : ∀ b ∈ F2, ¬ Own κ G3 b := fun b hb z => by
          rcases r3.new b z with q | q
          · exact (n2 b hb).2 q
          · obtain ⟨u', e', _⟩ := ok2.live b hb
            rw [q] at e'; cases e'
        refine ⟨v, w, u, rfl, ?_⟩
        have g1 := f3.put (i := i) (k := .sh) (v := v) (d := d) (F := []) hil ⟨v, d, rfl, rfl, Rp.kp ((f1.kp r2).trans (f2.kp r3)) _ _ ok1.1⟩ (fun c o e => nomatch e)
        have g2 := g1.put (i := j) (k := .ow (fun _ => True) o) (v := w) (d := e) (F := F2) hjl ⟨w, e, rfl, rfl, trivial, ok2'⟩ (fun c o' _ b hb z => by
          rcases Own.put hil z with ⟨z, _⟩ | z
          · cases z
          · exact m2 b hb z)
        have g3 := g2.put (i := l) (k := .sh) (v := u) (d := k) (F := []) hll ⟨u, k, rfl, rfl, ok3.1⟩ (fun c o e => nomatch e)
        have rr := (r1.trans r2).trans r3
        refine h _ H3 _ g3 ⟨rr.keep, fun b z => ?_, rr.non⟩
        rcases Own.put hll z with ⟨z, _⟩ | z
        · cases z
        · rcases Own.put hjl z with ⟨z, _⟩ | z
          · rcases (n2 b z).1 with q | q
            · exact r1.new b q
            · exact .inr (r1.non b q)
          · rcases Own.put hil z with ⟨z, _⟩ | z
            · cases z
            · exact rr.new b z
end G

/-! G30: dicts keyed by numbers and texts; two at once; insert. -/
namespace G
open PySem PySem.Spec PyProof.Rows
open L2 hiding St Inv Binds
def keyOf : PyData → Option Key
  | .int i => some (.inl i)
  | .str x => some (.inr x)
  | _ => none
theorem keyOf_keyD (k : Key) : keyOf (keyD k) = some k := by cases k <;> rfl
theorem keyOf_eq {d : PyData} {k : Key} (e : keyOf d = some k) : d = keyD k := by
  cases d <;> simp only [keyOf] at e <;> cases e <;> rfl
def isKey (k : Key) (d : PyData) : Bool := decide (keyOf d = some k)
def getK (ds : List (PyData × PyData)) (k : Key) : Option PyData := (ds.find? fun kv => isKey k kv.1).map (·.2)
def putKD (ds : List (PyData × PyData)) (k : Key) (v : PyData) : List (PyData × PyData) :=
  if (ds.any fun kv => isKey k kv.1) = true then ds.map (fun kv => if isKey k kv.1 = true then (kv.1, v) else kv) else ds ++ [(keyD k, v)]
theorem isKey_keyD (k j : Key) : isKey k (keyD j) = decide (j = k) := by
  unfold isKey
  rw [keyOf_keyD]
  by_cases e : j = k
  · rw [decide_eq_true e, decide_eq_true (congrArg some e)]
  · rw [decide_eq_false e, decide_eq_false (fun z => e (Option.some.inj z))]
section
variable {K : PySem.W.Frag} {H H' : Hp}
theorem RpKv.get {kvs : List (Key × V)} {ds : List (PyData × PyData)} (k : Key) (h : RpKv K H kvs ds) : (valV kvs k = none ∧ getK ds k = none) ∨ ∃ v d, valV kvs k = some v ∧ getK ds k = some d ∧ Rp K H v d := by
  induction kvs generalizing ds with
  | nil => cases h; exact .inl ⟨rfl, rfl⟩
  | cons p r ih =>
    cases h with
    | @cons k' v _ d ds h1 h2 =>
      have q := isKey_keyD k k'
      by_cases z : k' = k
      · rw [decide_eq_true z] at q
        refine .inr ⟨v, d, valV_pos (p := (k', v)) z, ?_, h1⟩
        unfold getK
        rw [List.find?_cons, show isKey k (keyD k', d).1 = true from q]
        rfl
      · rw [decide_eq_false z] at q
        have e1 : getK ((keyD k', d) :: ds) k = getK ds k := by
          unfold getK
          rw [List.find?_cons, show isKey k (keyD k', d).1 = false from q]
        rw [valV_neg (p := (k', v)) z, e1]
        exact ih h2
theorem RpKv.any {kvs : List (Key × V)} {ds : List (PyData × PyData)} (k : Key) (h : RpKv K H kvs ds) : (ds.any fun kv => isKey k kv.1) = (kvs.any fun kv => decide (kv.1 = k)) := by
  induction kvs generalizing ds with
  | nil => cases h; rfl
  | cons p r ih =>
    cases h with
    | @cons k' v _ d ds h1 h2 => rw [List.any_cons, List.any_cons, ih h2, show isKey k (keyD k', d).1 = decide (k' = k) from isKey_keyD k k']
theorem RpKv.snoc {kvs ks : List (Key × V)} {ds es : List (PyData × PyData)} (h : RpKv K H kvs ds) (h2 : RpKv K H ks es) : RpKv K H (kvs ++ ks) (ds ++ es) := by
  induction kvs generalizing ds with
  | nil => cases h; exact h2
  | cons p r ih => cases h with | cons a b => exact .cons a (ih b)
theorem RpKv.put {kvs : List (Key × V)} {ds : List (PyData × PyData)} {v : V} {d : PyData} (k : Key) (h : RpKv K H kvs ds) (r : Rp K H v d) : RpKv K H (putK kvs k v) (putKD ds k d) := by
  unfold putK putKD
  rw [h.any k]
  by_cases z : (kvs.any fun kv => decide (kv.1 = k)) = true
  · rw [if_pos z, if_pos z]
    clear z
    induction kvs generalizing ds with
    | nil => cases h; exact .nil
    | cons p rs ih =>
      cases h with
      | @cons k' v' _ d' ds h1 h2 =>
        rw [List.map_cons, List.map_cons]
        have q := isKey_keyD k k'
        by_cases z : k' = k
        · rw [decide_eq_true z] at q
          rw [if_pos (show (k', v').1 = k from z), if_pos (show isKey k (keyD k', d').1 = true from q)]
          exact .cons r (ih h2)
        · rw [decide_eq_false z] at q
          rw [if_neg (show ¬ (k', v').1 = k from z), if_neg (show ¬ isKey k (keyD k', d').1 = true by rw [q]; decide)]
          exact .cons h1 (ih h2)
  · rw [if_neg z, if_neg z]
    exact h.snoc (.cons r .nil)
theorem putKD_len (ds : List (PyData × PyData)) (k : Key) (v : PyData) : (putKD ds k v).length ≤ ds.length + 1 := by
  unfold putKD
  split
  · rw [List.length_map]; omega
  · rw [List.length_append]; exact Nat.le_refl _
theorem Pk.dict {v : V} {ds : List (PyData × PyData)} (h : Pk K H v (.dict ds)) : ∃ a kvs, v = .ref a ∧ Rd H a (.dK kvs) ∧ RpKv K H kvs ds := by
  cases h with
  | sh h => cases h with | dk h1 h2 => exact ⟨_, _, rfl, .inr ⟨_, h1⟩, h2⟩
  | dk h1 h2 => exact ⟨_, _, rfl, .inl h1, h2⟩
theorem keyOf_pk {v : V} {d : PyData} {k : Key} (h : Pk K H v d) (e : keyOf d = some k) : v = kV k := by
  cases d <;> simp only [keyOf] at e <;> cases e
  · exact h.int
  · exact h.str
end
/-! ### k in d, d[k] -/
def dInK : PyData → PyData → Option PyData
  | d, .dict ds => (match keyOf d with
    | some k => some (.bool (getK ds k).isSome)
    | none => none)
  | _, _ => none
def dNotInK : PyData → PyData → Option PyData
  | d, .dict ds => (match keyOf d with
    | some k => some (.bool (!(getK ds k).isSome))
    | none => none)
  | _, _ => none
def dGetK : PyData → PyData → Option PyData
  | .dict ds, d => (match keyOf d with
    | some k => getK ds k
    | none => none)
  | _, _ => none
section
variable {X : Cx} {κ : List SK} {W : WX}
theorem od_inK (hu : X.A.units + 64 < cLine) : OpR X (compareOp .In) (rD X.K .sh dInK) := by
  intro pins s σ H x y v u Q I rx ry h
  obtain ⟨d, e, r, pd, pe, eg, q⟩ := h
  unfold dInK at eg
  split at eg
  · rename_i d ds
    obtain ⟨a, kvs, rfl, hr, rk⟩ := pe.dict
    split at eg
    · rename_i k hk
      cases eg
      obtain rfl := keyOf_pk pd hk
      obtain rfl : u = Value.ref a := ry
      refine d_in (by omega) I (.inl ⟨kvs, k, hr, rfl, rfl⟩) rx fun s' I' => ?_
      have e : (valV kvs k).isSome = (getK ds k).isSome := by
        rcases rk.get k with ⟨e1, e2⟩ | ⟨_, _, e1, e2, _⟩ <;> rw [e1, e2] <;> rfl
      exact ⟨.bl _, H, I', rfl, by rw [e]; exact res_sh q (.bl _)⟩
    · cases eg
  · cases eg
theorem od_notInK (hu : X.A.units + 64 < cLine) : OpR X (compareOp .NotIn) (rD X.K .sh dNotInK) := by
  intro pins s σ H x y v u Q I rx ry h
  obtain ⟨d, e, r, pd, pe, eg, q⟩ := h
  unfold dNotInK at eg
  split at eg
  · rename_i d ds
    obtain ⟨a, kvs, rfl, hr, rk⟩ := pe.dict
    split at eg
    · rename_i k hk
      cases eg
      obtain rfl := keyOf_pk pd hk
      obtain rfl : u = Value.ref a := ry
      refine d_notIn (by omega) I (.inl ⟨kvs, k, hr, rfl, rfl⟩) rx fun s' I' => ?_
      have e : (valV kvs k).isSome = (getK ds k).isSome := by
        rcases rk.get k with ⟨e1, e2⟩ | ⟨_, _, e1, e2, _⟩ <;> rw [e1, e2] <;> rfl
      exact ⟨.bl _, H, I', rfl, by rw [e]; exact res_sh q (.bl _)⟩
    · cases eg
  · cases eg
theorem qe_getK {pa pb : Bool} {ka kb : RK} {fa fb : M PyData} {a b : Expr} {pos : Pos} (hu : X.A.units + 64 < cLine) (ha : QE X κ W pa ka a fa) (hb : QE X κ W pb kb b fb) (hn : NoSl b) (hs : stb ka pb = true := by rfl) (la : ka.looks X.K := by trivial) (lb : kb.looks X.K := by trivial) :
    QE X κ W (pa && pb) .sh (.Subscript a b pos) (eBin dGetK fa fb) := by
  refine PE.imp (pe_dget (by omega) ha hb hn) fun σ H Q h => ?_
  have h := bin_ok hs la lb h
  obtain ⟨ρ, G, fr, h⟩ := h
  refine ⟨ρ, G, fr, ?_⟩
  cases e1 : fa ρ with
  | bad => rw [e1] at h; exact h
  | ex c p ρ' => rw [e1] at h; exact h
  | ok d ρ1 =>
    rw [e1] at h
    intro v H1 G1 F1 f1 r1 s1 ok1 n1
    obtain ⟨ρ2, G2, fr2, h⟩ := h v H1 G1 F1 f1 r1 s1 ok1 n1
    refine ⟨ρ2, G2, fr2, ?_⟩
    cases e2 : fb ρ2 with
    | bad => rw [e2] at h; exact h
    | ex c p ρ' => rw [e2] at h; exact h
    | ok e ρ3 =>
      rw [e2] at h
      intro w H2 G3 F2 f2 r2 s2 ok2 n2
      obtain ⟨d, e, r, pd, pe, eg, q⟩ := h w H2 G3 F2 f2 r2 s2 ok2 n2
      unfold dGetK at eg
      split at eg
      · rename_i ds e
        obtain ⟨a, kvs, rfl, hr, rk⟩ := pd.dict
        split at eg
        · rename_i k hk
          obtain rfl := keyOf_pk pe hk
          rcases rk.get k with ⟨_, z⟩ | ⟨v, d, z1, z2, z3⟩
          · rw [z] at eg; cases eg
          · rw [z2] at eg
            cases eg
            exact ⟨a, v, rfl, .inl ⟨kvs, k, hr, rfl, z1.symm⟩, res_sh q z3⟩
        · cases eg
      · cases eg
/-! ### {} and displays -/
theorem qe_newK {pos : Pos} : QE X κ W true (.ow (oDk X.K)) (.Dict [] [] pos) (eK (.dict [])) :=
  PE.imp pe_dnewK fun σ H Q ⟨ρ, G, f, h⟩ p hp => val_ok f h (same_upd0 hp) ⟨p, [], [], rfl, rfl, rfl, upd_same, .nil⟩ fun b hb => by
    rw [List.mem_singleton] at hb
    rw [hb]; exact hp
end
/-- the pairs of a display -/
def ePairs : List (M PyData × M PyData) → M (List (Key × PyData))
  | [], ρ => .ok [] ρ
  | (fk, fv) :: r, ρ => match fk ρ with
    | .ok k ρ1 => (match fv ρ1 with
      | .ok v ρ2 => (match ePairs r ρ2 with
        | .ok ps ρ3 => (match keyOf k with
          | some k => .ok ((k, v) :: ps) ρ3
          | none => .bad)
        | .ex c p ρ' => .ex c p ρ'
        | .bad => .bad)
      | .ex c p ρ' => .ex c p ρ'
      | .bad => .bad)
    | .ex c p ρ' => .ex c p ρ'
    | .bad => .bad
def eDisp (fs : List (M PyData × M PyData)) : M PyData := fun ρ => match ePairs fs ρ with
  | .ok ps ρ' => .ok (.dict (ps.foldl (fun acc kv => putKD acc kv.1 kv.2) [])) ρ'
  | .ex c p ρ' => .ex c p ρ'
  | .bad => .bad
section
variable {X : Cx} {κ : List SK} {W : WX}
theorem RpKv.merge {K : PySem.W.Frag} {H : Hp} : ∀ {more : List (Key × V)} {ms : List (Key × PyData)} {kvs : List (Key × V)} {ds : List (PyData × PyData)}, Paired (fun (p : Key × V) (q : Key × PyData) => p.1 = q.1 ∧ Rp K H p.2 q.2) more ms → RpKv K H kvs ds → RpKv K H (mergeK kvs more) (ms.foldl (fun acc kv => putKD acc kv.1 kv.2) ds) := by
  intro more ms kvs ds r
  induction r generalizing kvs ds with
  | nil => intro q; exact q
  | @cons p q ps qs h t ih =>
    intro r0
    obtain ⟨h1, h2⟩ := h
    have e : RpKv K H (putK kvs p.1 p.2) (putKD ds q.1 q.2) := by rw [← h1]; exact r0.put _ h2
    exact ih e
theorem pairs_ok {mg : Str → Option Value} {K : PySem.W.Frag} {κ : List SK} {W : WX} {σ : St} : ∀ (fs : List (M PyData × M PyData)) (ks : List (Bool × Bool)) {ρ : Ev} {G : Nat → List Addr} {H : Hp} {Q : List (V × V) → Hp → Prop}, fs.length = ks.length → FR K κ ρ σ H G →
    (match ePairs fs ρ with
      | .ok ms ρ' => ∀ vs H' G', FR K κ ρ' σ H' G' → Rel H (Own κ G) H' (Own κ G') → Paired (fun (p : Key × V) (q : Key × PyData) => p.1 = q.1 ∧ Rp K H' p.2 q.2) vs ms → Q (vs.map fun kv => (kV kv.1, kv.2)) H'
      | .ex c p ρ' => ∀ cls dd H' G', ExcOk K mg c p cls dd H' → FR K κ ρ' σ H' G' → Rel H (Own κ G) H' (Own κ G') → W cls dd σ H'
      | .bad => False) → tPairs ((fs.zip ks).map fun z => (tE K mg κ W z.2.1 .sh z.1.1, tE K mg κ W z.2.2 .sh z.1.2)) σ H Q
  | [], [], ρ, G, H, Q, _, fr, h => h [] H G fr (.refl ..) .nil
  | [], _ :: _, _, _, _, _, e, _, _ => nomatch e
  | _ :: _, [], _, _, _, _, e, _, _ => nomatch e
  | (fk, fv) :: fs, (p1, p2) :: ks, ρ, G, H, Q, e, fr, h => by
    refine ⟨ρ, G, fr, ?_⟩
    unfold ePairs at h
    show AftE K mg κ W p1 .sh σ H G _ (fk ρ)
    cases e1 : fk ρ with
    | bad => rw [e1] at h; exact h
    | ex c p ρ' => rw [e1] at h; exact h
    | ok k ρ1 =>
      rw [e1] at h
      intro x H1 G1 F1 f1 r1 s1 ok1 n1
      refine ⟨ρ1, G1, f1, ?_⟩
      show AftE K mg κ W p2 .sh σ H1 G1 _ (fv ρ1)
      dsimp only at h
      cases e2 : fv ρ1 with
      | bad => rw [e2] at h; exact h
      | ex c p ρ' => rw [e2] at h; exact fun cls dd H' G' x f' r' => h cls dd H' G' x f' (r1.trans r')
      | ok v ρ2 =>
        rw [e2] at h
        intro y H2 G2 F2 f2 r2 s2 ok2 n2
        dsimp only at h
        refine pairs_ok fs ks (Nat.succ.inj e) f2 ?_
        cases e3 : ePairs fs ρ2 with
        | bad => rw [e3] at h; exact h
        | ex c p ρ' => rw [e3] at h; exact fun cls dd H' G' x f' r' => h cls dd H' G' x f' ((r1.trans r2).trans r')
        | ok ps ρ3 =>
          rw [e3] at h
          dsimp only at h ⊢
          intro vs H3 G3 f3 r3 hp
          cases e4 : keyOf k with
          | none => rw [e4] at h; exact h.elim
          | some kk =>
            rw [e4] at h
            have rx := Rp.kp (f2.kp r3) _ _ (Rp.kp (f1.kp r2) _ _ ok1.1)
            obtain rfl := keyOf_pk (.sh rx) e4
            exact h ((kk, y) :: vs) H3 G3 f3 ((r1.trans r2).trans r3) (.cons ⟨rfl, Rp.kp (f2.kp r3) _ _ ok2.1⟩ hp)
theorem qe_disp {pos : Pos} {keys : List (Option Expr)} {values : List Expr} (fs : List (M PyData × M PyData)) (ks : List (Bool × Bool)) (h : PPs X pos keys values ((fs.zip ks).map fun z => (tE X.K X.mg κ W z.2.1 .sh z.1.1, tE X.K X.mg κ W z.2.2 .sh z.1.2)))
    (hl2 : fs.length = ks.length := by rfl) (hk2 : fs.length = keys.length := by rfl) (hall : keys.all (·.isSome) = true := by rfl) (hl : keys.length = values.length := by rfl) (h0 : keys ≠ [] := by intro z; cases z) (h15 : keys.length ≤ 15 := by decide) :
    QE X κ W false (.ow (oDk X.K)) (.Dict keys values pos) (eDisp fs) := by
  refine PE.imp (pe_disp h hall hl h0 h15) fun σ H Q ⟨ρ, G, fr, q⟩ p hp => ?_
  have sm : Same H (upd H p (.dK [])) := same_upd hp
  have fr1 := fr.same sm
  have np : ∀ {ρ : Ev} {H' : Hp} {G' : Nat → List Addr}, Rel (upd H p (.dK [])) (Own κ G) H' (Own κ G') → H' p = some (.dK []) ∧ ¬ Own κ G' p := fun {_ _ _} r => by
    have no : ¬ Own κ G p := fun z => by
      obtain ⟨u, e, _⟩ := fr.live z
      rw [hp] at e; cases e
    refine ⟨r.keep p _ upd_same no, fun z => ?_⟩
    rcases r.new p z with z | z
    · exact no z
    · rw [upd_same] at z; cases z
  refine pairs_ok fs ks hl2 fr1 ?_
  unfold eDisp at q
  cases e : ePairs fs ρ with
  | bad => rw [e] at q; exact q
  | ex c pp ρ' => rw [e] at q; exact fun cls dd H' G' x f' r' => q cls dd H' G' x f' ((Rel.of_same sm).trans r')
  | ok ms ρ' =>
    rw [e] at q
    dsimp only at q ⊢
    intro vs H2 G2 f2 r2 hp2
    obtain ⟨z1, z2⟩ := np (ρ := ρ) r2
    refine ⟨z1, vs, rfl, ?_, ?_⟩
    · have e1 : vs.length = ms.length := Paired.length hp2
      have : ∀ (fs : List (M PyData × M PyData)) (ρ : Ev) ms ρ', ePairs fs ρ = .ok ms ρ' → ms.length = fs.length := by
        intro fs
        induction fs with
        | nil => intro ρ ms ρ' e; cases e; rfl
        | cons f fs ih =>
          obtain ⟨fk, fv⟩ := f
          intro ρ ms ρ' e
          unfold ePairs at e
          cases e1 : fk ρ with
          | bad => rw [e1] at e; cases e
          | ex c p ρ' => rw [e1] at e; cases e
          | ok k ρ1 =>
            rw [e1] at e
            dsimp only at e
            cases e2 : fv ρ1 with
            | bad => rw [e2] at e; cases e
            | ex c p ρ' => rw [e2] at e; cases e
            | ok v ρ2 =>
              rw [e2] at e
              dsimp only at e
              cases e3 : ePairs fs ρ2 with
              | bad => rw [e3] at e; cases e
              | ex c p ρ' => rw [e3] at e; cases e
              | ok ps ρ3 =>
                rw [e3] at e
                dsimp only at e
                cases e4 : keyOf k with
                | none => rw [e4] at e; cases e
                | some kk =>
                  rw [e4] at e
                  cases e
                  rw [List.length_cons, List.length_cons, ih _ _ _ e3]
      rw [e1, this _ _ _ _ e, hk2]
      exact h15
    · have kp : Kp H2 (upd H2 p (.dK (mergeK [] vs))) := kp_upd z1 rfl
      have fw : FR X.K κ ρ' σ (upd H2 p (.dK (mergeK [] vs))) G2 := f2.updF z2 kp
      refine q (.ref p) _ G2 [p] fw ?_ (fun z => nomatch z) ⟨p, _, _, rfl, rfl, rfl, upd_same, ?_⟩ fun b hb => ?_
      · have rr := (Rel.of_same sm).trans r2
        refine ⟨fun b u hb nb => ?_, rr.new, fun b z => rr.non b (upd_none z)⟩
        rw [upd_ne fun z => by subst z; rw [hp] at hb; cases hb]
        exact rr.keep b u hb nb
      · refine RpKv.merge (H := upd H2 p (.dK (mergeK [] vs))) ?_ .nil
        clear q np z1 z2 e
        have go : ∀ {vs : List (Key × V)} {ms : List (Key × PyData)} {H3 : Hp}, Kp H2 H3 → Paired (fun (p : Key × V) (q : Key × PyData) => p.1 = q.1 ∧ Rp X.K H2 p.2 q.2) vs ms → Paired (fun (p : Key × V) (q : Key × PyData) => p.1 = q.1 ∧ Rp X.K H3 p.2 q.2) vs ms := by
          intro vs ms H3 kp r
          induction r with
          | nil => exact .nil
          | cons h t ih => exact .cons ⟨h.1, Rp.kp kp _ _ h.2⟩ ih
        exact go kp hp2
      · rw [List.mem_singleton] at hb
        subst hb
        exact ⟨.inr hp, z2⟩
end
end G

/-! G31: d[k] = v; list(d); two at once, shared or owned. -/
namespace G
open PySem PySem.Spec PyProof.Rows
open L2 hiding St Inv Binds
theorem set_K {X : Cx} (hu : X.A.units + 64 < cLine) : PSet X (fun o i v H Q => ∃ a k kvs, o = .ref a ∧ i = kV k ∧ H a = some (.dK kvs) ∧ kvs.length < sizeLine ∧ Q (upd H a (.dK (putK kvs k v)))) := by
  intro pins s σ H o i v ov iv u Q I ro ri rv h
  obtain ⟨a, k, kvs, rfl, rfl, ha, hl, q⟩ := h
  obtain rfl : ov = Value.ref a := ro
  exact d_setItem (by omega) I (.k ha hl) ri rv fun s' I' => ⟨_, I', q⟩
def sPutK (i : Nat) (fv fk : M PyData) : MS := fun ρ => match fv ρ with
  | .ok d ρ1 => (match fk ρ1 with
    | .ok k ρ2 => (match ρ2[i]? with
      | some (.dict ds) => (match keyOf k with
        | some kk => if ds.length < sizeLine then .nx (ρ2.set i (.dict (putKD ds kk d))) else .bad
        | none => .bad)
      | _ => .bad)
    | .ex c p ρ' => .ex c p ρ'
    | .bad => .bad)
  | .ex c p ρ' => .ex c p ρ'
  | .bad => .bad
section
variable {X : Cx} {J : Jx} {κ : List SK} {W : WX} {pu pv pk : Bool} {x : Str} {p tpos pos apos cpos : Pos} {e ke e1 e2 : Expr} {fv fk f1 f2 : M PyData} {c : V → Prop}
theorem qs_putK (i : Nat) (hu : X.A.units + 64 < cLine) (hk : κ[i]? = some (.ow c (oDk X.K))) (hp : PE X (.Name x p) (tVar i)) (hv : QE X κ J.W pv .sh e fv) (hi : QE X κ J.W pk .sh ke fk) (wx : Wk κ J.κx)
    (hs : swapsWithSole [.Subscript (.Name x p) ke tpos] e pos.line X.env = pure false := by rfl) (hw : swappedStores [.Subscript (.Name x p) ke tpos] e X.env = pure none := by rfl)
    (h1 : (assignEach [.Subscript (.Name x p) ke tpos] X.env).map (·.2) = [assign (.Subscript (.Name x p) ke tpos) X.env] := by rfl)
    (ha : ∀ v, assign (.Subscript (.Name x p) ke tpos) X.env v = (do
      let ov ← holding [v] (eval (.Name x p) X.env)
      let iv ← holding [v, ov] (eval ke X.env)
      standAt tpos
      holding [v, ov, iv] (setItem ov iv v)
      release [v, ov, iv] []) := by intro _; rfl) :
    QS X J κ κ (.Assign [.Subscript (.Name x p) ke tpos] e pos) (sPutK i fv fk) := by
  refine PS.imp (ps_asg hv (pg_sub hp hi (set_K hu) ha) hs hw h1) fun D σ H ⟨ρ, G, fr, h⟩ => ⟨ρ, G, fr, ?_⟩
  unfold sPutK at h
  cases e1 : fv ρ with
  | bad => rw [e1] at h; exact h
  | ex c p ρ' => rw [e1] at h; exact fun cls dd H' G' x f' r' => h cls dd σ H' G' x (f'.weak wx) (r'.sub fun b z => z.weak wx)
  | ok d ρ1 =>
    rw [e1] at h
    intro y H1 G1 F1 f1 r1 s1 ok1 n1
    obtain ⟨v, d0, q1, q2, _, a, xs, ds, rfl, eG, rfl, g1, g2⟩ := f1.ok i _ hk
    refine ⟨_, q1, ρ1, G1, f1, ?_⟩
    dsimp only at h
    cases e2 : fk ρ1 with
    | bad => rw [e2] at h; exact h
    | ex c p ρ' => rw [e2] at h; exact fun cls dd H' G' x f' r' => h cls dd σ H' G' x (f'.weak wx) ((r1.trans r').sub fun b z => z.weak wx)
    | ok k ρ2 =>
      rw [e2] at h
      intro kv H2 G2 F2 f2 r2 s2 ok2 n2
      obtain ⟨v', d', q1', q2', _, a', xs', ds', rfl, eG', rfl, g1', g2'⟩ := f2.ok i _ hk
      rw [q1] at q1'
      cases q1'
      dsimp only at h
      rw [q2'] at h
      dsimp only at h
      split at h
      · rename_i kk hkk
        split at h
        · rename_i hl
          obtain rfl := keyOf_pk (.sh ok2.1) hkk
          refine ⟨a, kk, xs', rfl, rfl, g1', by rw [g2'.len]; exact hl, ?_⟩
          have kp : Kp H2 (upd H2 a (.dK (putK xs' kk y))) := kp_upd g1' rfl
          have hm : a ∈ G2 i := by rw [eG']; simp
          have ne : ∀ b u, b ∉ G2 i → H2 b = some u → (upd H2 a (.dK (putK xs' kk y))) b = some u := fun b u hb e => upd_other hm hb e
          exact h σ _ G2 (f2.wr hk q1 ⟨a, _, _, rfl, eG', rfl, upd_same, (RpKv.kp kp _ _ g2').put kk (Rp.kp kp _ _ (Rp.kp (f1.kp r2) _ _ ok1.1))⟩ kp ne) ((r1.trans r2).trans (Rel.wr hk ne fun b z => upd_none z))
        · exact h.elim
      · exact h.elim
/-! ### list(d) -/
def dListK : List PyData → Option PyData
  | [.dict ds] => some (.list (ds.map (·.1)))
  | _ => none
theorem RpKv.keys {K : PySem.W.Frag} {H : Hp} : ∀ {kvs : List (Key × V)} {ds : List (PyData × PyData)}, RpKv K H kvs ds → RpAll K H (kvs.map fun kv => kV kv.1) (ds.map (·.1))
  | _, _, .nil => .nil
  | (k, v) :: _, _, .cons h t => by
    refine .cons ?_ (RpKv.keys t)
    cases k with
    | inl i => exact .int i
    | inr x => exact .str x
theorem cd_listK (hc : X.calm = true) {k : RK} (hk : k.plain = true := by rfl) : CallR X (.type "list") (rC X.K [k] (.ow (oLst X.K)) dListK) := by
  intro pins s σ H xs us Q I r h
  obtain ⟨ds, r0, ra, eg, q⟩ := h
  unfold dListK at eg
  split at eg
  · cases eg
    obtain ⟨x, rfl, h⟩ := ra.one
    obtain ⟨a, kvs, rfl, ha, rl⟩ := (h.pkk hk).dict
    exact call_listD hc pins s σ H _ us Q I r ⟨a, kvs, rfl, ha, fun l hl => res_lst q hl rl.keys⟩
  · cases eg
end
/-! ### two at once, shared or owned -/
def skR : RK → SK
  | .ow o => .ow (fun _ => True) o
  | _ => .sh
theorem ResOk.slot {K : PySem.W.Frag} {rk : RK} {H : Hp} {v : V} {d : PyData} {F : List Addr} (hp : rk ≠ .pk) (h : ResOk K rk H v d F) : SlotOk K (skR rk) (some (some v)) (some d) F H := by
  cases rk with
  | sh => exact ⟨v, d, rfl, rfl, h.1⟩
  | pk => exact (hp rfl).elim
  | ow o => exact ⟨v, d, rfl, rfl, trivial, h⟩
theorem qs_par2 {X : Cx} {J : Jx} {κ : List SK} {ra rb : RK} {pa pb : Bool} {fa fb : M PyData} {i j : Nat} {x y : Str} {a b : Expr} {pos px py pt : Pos} {kt k2 pt2} (hc : X.calm = true) (hN : X.N.Nodup) (hi : X.N[i]? = some x) (hj : X.N[j]? = some y) (hij : i ≠ j)
    (hx : X.env.scope.names.lookup x = some .local) (hy : X.env.scope.names.lookup y = some .local) (ha : QE X κ J.W pa ra a fa) (hb : QE X κ J.W pb rb b fb) (wx : Wk κ J.κx)
    (hw : swappedStores [.Tuple [.Name x px, .Name y py] kt pt] (.Tuple [a, b] k2 pt2) X.env = pure (some [x, y])) (hra : ra ≠ .pk := by intro z; cases z) (hrb : rb ≠ .pk := by intro z; cases z) (hil : i < κ.length := by first | decide | simp) (hjl : j < (κ.set i (skR ra)).length := by first | decide | simp)
    (hs : swapsWithSole [.Tuple [.Name x px, .Name y py] kt pt] (.Tuple [a, b] k2 pt2) pos.line X.env = pure false := by rfl)
    (t1 : starEach [a, b] X.env = (false, eval a X.env) :: starEach [b] X.env := by rfl) (t2 : starEach [b] X.env = (false, eval b X.env) :: starEach [] X.env := by rfl) :
    QS X J κ ((κ.set i (skR ra)).set j (skR rb)) (.Assign [.Tuple [.Name x px, .Name y py] kt pt] (.Tuple [a, b] k2 pt2) pos) (sParO i j fa fb) := by
  refine PS.imp (ps_par hc hN hi hj hij hx hy (pa_cons ha (pa_cons hb pa_nil t2) t1) hw hs) fun D σ H ⟨ρ, G, fr, h⟩ => ⟨ρ, G, fr, ?_⟩
  unfold sParO at h
  cases e1 : fa ρ with
  | bad => rw [e1] at h; exact h
  | ex c p ρ' => rw [e1] at h; exact fun cls dd H' G' x f' r' => h cls dd σ H' G' x (f'.weak wx) (r'.sub fun b z => z.weak wx)
  | ok d ρ1 =>
    rw [e1] at h
    intro v H1 G1 F1 f1 r1 s1 ok1 n1
    dsimp only at h
    refine ⟨ρ1, G1, f1, ?_⟩
    cases e2 : fb ρ1 with
    | bad => rw [e2] at h; exact h
    | ex c p ρ' => rw [e2] at h; exact fun cls dd H' G' x f' r' => h cls dd σ H' G' x (f'.weak wx) ((r1.trans r').sub fun b z => z.weak wx)
    | ok e ρ2 =>
      rw [e2] at h
      intro w H2 G2 F2 f2 r2 s2 ok2 n2
      dsimp only at h
      refine ⟨v, w, rfl, ?_⟩
      have hst : stb ra pb = true := by
        cases ra with
        | pk => exact (hra rfl).elim
        | sh => rfl
        | ow o => rfl
      have ok1' : ResOk X.K ra H2 v d F1 := ok1.after f1 (pu := pb) hst r2 s2 fun b hb => (n1 b hb).2
      have m1 : ∀ b ∈ F1, ¬ Own κ G2 b := fun b hb z => by
        rcases r2.new b z with q | q
        · exact (n1 b hb).2 q
        · obtain ⟨u', e', _⟩ := ok1.live b hb
          rw [q] at e'; cases e'
      have g1 := f2.put (i := i) (k := skR ra) (v := v) (d := d) (F := F1) hil (ok1'.slot hra) (fun c o _ b hb z => m1 b hb z)
      have n12 : ∀ b ∈ F2, b ∈ F1 → False := fun b hb z => by
        rcases (n2 b hb).1 with q | q
        · exact (n1 b z).2 q
        · obtain ⟨u', e', _⟩ := ok1.live b z
          rw [q] at e'; cases e'
      have g2 := g1.put (i := j) (k := skR rb) (v := w) (d := e) (F := F2) hjl (ok2.slot hrb) (fun c o' _ b hb z => by
        rcases Own.put hil z with ⟨z, _⟩ | z
        · exact n12 b hb z
        · exact (n2 b hb).2 z)
      refine h _ H2 _ g2 ⟨(r1.trans r2).keep, fun b z => ?_, (r1.trans r2).non⟩
      rcases Own.put hjl z with ⟨z, _⟩ | z
      · rcases (n2 b z).1 with q | q
        · exact r1.new b q
        · exact .inr (r1.non b q)
      · rcases Own.put hil z with ⟨z, _⟩ | z
        · exact (n1 b z).1
        · exact (r1.trans r2).new b z
/-! ### is True, is False -/
def dIsB : PyData → PyData → Option PyData
  | .bool a, .bool b => some (.bool (decide (a = b)))
  | _, _ => none
def dNotB : PyData → PyData → Option PyData
  | .bool a, .bool b => some (.bool (!decide (a = b)))
  | _, _ => none
theorem od_isB {X : Cx} : OpR X (compareOp .Is) (rD X.K .sh dIsB) := by
  intro pins s σ H x y v u Q I rx ry h
  obtain ⟨d, e, r, px, py, eg, q⟩ := h
  unfold dIsB at eg
  split at eg
  · cases eg
    cases px.bool
    cases py.bool
    exact op_isBl pins s σ H _ _ v u Q I rx ry ⟨_, _, rfl, rfl, res_sh q (.bl _)⟩
  · cases eg
theorem od_notB {X : Cx} : OpR X (compareOp .IsNot) (rD X.K .sh dNotB) := by
  intro pins s σ H x y v u Q I rx ry h
  obtain ⟨d, e, r, px, py, eg, q⟩ := h
  unfold dNotB at eg
  split at eg
  · cases eg
    cases px.bool
    cases py.bool
    exact op_notBl pins s σ H _ _ v u Q I rx ry ⟨_, _, rfl, rfl, res_sh q (.bl _)⟩
  · cases eg
end G

/-! G32: scaled rules, plainly: callers, ticks, closures, sums. -/
namespace SC
open SP
/-- who calls, and the place of the call -/
def cal (s : Nat) : List Nat → Nat → Nat → List (Nat × Nat)
  | [], _, _ => []
  | m :: ms, i, k => if m ≤ k ∧ (k - m) % s = 0 then ((k - m) / s, i + 1) :: cal s ms (i + 1) k else cal s ms (i + 1) k
theorem cal_cons (s m : Nat) (ms : List Nat) (i k : Nat) : cal s (m :: ms) i k = if m ≤ k ∧ (k - m) % s = 0 then ((k - m) / s, i + 1) :: cal s ms (i + 1) k else cal s ms (i + 1) k := rfl
theorem call_iff {s m k c : Nat} (hs : 0 < s) : (m ≤ k ∧ (k - m) % s = 0 ∧ c = (k - m) / s) ↔ c * s + m = k := by
  constructor
  · rintro ⟨h1, h2, rfl⟩
    have := Nat.div_add_mod (k - m) s
    rw [h2, Nat.mul_comm] at this
    omega
  · intro h
    have e : k - m = c * s := by omega
    refine ⟨by omega, ?_, ?_⟩
    · rw [e]; exact Nat.mul_mod_left ..
    · rw [e]; exact (Nat.mul_div_cancel _ hs).symm
theorem mem_cal {s : Nat} (hs : 0 < s) {c p k : Nat} : ∀ {ms : List Nat} {i : Nat}, (c, p) ∈ cal s ms i k ↔ ∃ j m, ms[j]? = some m ∧ c * s + m = k ∧ p = i + j + 1
  | [], i => by simp [cal]
  | m :: ms, i => by
    have ih := mem_cal hs (c := c) (p := p) (k := k) (ms := ms) (i := i + 1)
    have key : (c, p) ∈ cal s (m :: ms) i k ↔ (c * s + m = k ∧ p = i + 1) ∨ (c, p) ∈ cal s ms (i + 1) k := by
      rw [cal_cons]
      split
      · rename_i h
        rw [List.mem_cons]
        refine or_congr ⟨fun e => ?_, fun ⟨e1, e2⟩ => ?_⟩ .rfl
        · injection e with e1 e2
          exact ⟨(call_iff hs).mp ⟨h.1, h.2, e1⟩, e2⟩
        · rw [e2, ((call_iff hs).mpr e1).2.2]
      · rename_i h
        refine ⟨.inr, fun z => z.elim (fun ⟨e, _⟩ => ?_) id⟩
        obtain ⟨a, b, _⟩ := (call_iff hs).mpr e
        exact (h ⟨a, b⟩).elim
    rw [key, ih]
    constructor
    · rintro (⟨h1, h2⟩ | ⟨j, m', h1, h2, h3⟩)
      · exact ⟨0, m, rfl, h1, by omega⟩
      · exact ⟨j + 1, m', h1, h2, by omega⟩
    · rintro ⟨j, m', h1, h2, h3⟩
      cases j with
      | zero =>
        cases h1
        exact .inl ⟨h2, by omega⟩
      | succ j => exact .inr ⟨j, m', h1, h2, by omega⟩
theorem cal_len (s k : Nat) : ∀ (ms : List Nat) (i : Nat), (cal s ms i k).length ≤ ms.length
  | [], _ => Nat.le_refl _
  | m :: ms, i => by
    rw [cal_cons]
    have := cal_len s k ms (i + 1)
    split <;> simp only [List.length_cons] <;> omega
theorem cal_lt {s k : Nat} (hs : 2 ≤ s) (hk : 0 < k) {ms : List Nat} {i : Nat} {x : Nat × Nat} (h : x ∈ cal s ms i k) : x.1 < k := by
  obtain ⟨c, p⟩ := x
  obtain ⟨j, m, _, h2, _⟩ := (mem_cal (by omega)).mp h
  show c < k
  have : c * 2 ≤ c * s := Nat.mul_le_mul_left c hs
  omega
/-! ### ticks -/
def Tf (s : Nat) (ms : List Nat) : Nat → Nat → OI
  | 0, k => if k = 0 then some 0 else none
  | n + 1, k => if k = 0 then some 0 else minL ((cal s ms 0 k).filterMap fun x => (Tf s ms n x.1).map fun t => t + (x.2 : Int))
def T (s : Nat) (ms : List Nat) (k : Nat) : OI := Tf s ms k k
theorem fm_congr {α β : Type} {f g : α → Option β} : ∀ {l : List α}, (∀ x ∈ l, f x = g x) → l.filterMap f = l.filterMap g
  | [], _ => rfl
  | x :: l, h => by
    rw [List.filterMap_cons, List.filterMap_cons, h x List.mem_cons_self, fm_congr fun y hy => h y (List.mem_cons_of_mem _ hy)]
theorem Tf_eq {s : Nat} (hs : 2 ≤ s) (ms : List Nat) : ∀ n m k, k ≤ n → k ≤ m → Tf s ms n k = Tf s ms m k
  | 0, m, k, h, _ => by
    obtain rfl : k = 0 := by omega
    cases m <;> rfl
  | n + 1, m, k, h, h2 => by
    by_cases hk : k = 0
    · subst hk
      cases m <;> rfl
    · obtain ⟨m, rfl⟩ : ∃ m', m = m' + 1 := ⟨m - 1, by omega⟩
      unfold Tf
      rw [if_neg hk, if_neg hk]
      refine congrArg _ (fm_congr fun x hx => ?_)
      have := cal_lt hs (by omega) hx
      rw [Tf_eq hs ms n m x.1 (by omega) (by omega)]
theorem T_zero (s : Nat) (ms : List Nat) : T s ms 0 = some 0 := rfl
def cand (s : Nat) (ms0 : List Nat) (ms : List Nat) (i k : Nat) : List Int := (cal s ms i k).filterMap fun x => (T s ms0 x.1).map fun t => t + (x.2 : Int)
theorem T_pos {s : Nat} (hs : 2 ≤ s) (ms : List Nat) {k : Nat} (hk : 0 < k) : T s ms k = minL (cand s ms ms 0 k) := by
  obtain ⟨n, rfl⟩ : ∃ n, k = n + 1 := ⟨k - 1, by omega⟩
  unfold T
  rw [show Tf s ms (n + 1) (n + 1) = minL ((cal s ms 0 (n + 1)).filterMap fun x => (Tf s ms n x.1).map fun t => t + (x.2 : Int)) from if_neg (by omega)]
  refine congrArg _ (fm_congr fun x hx => ?_)
  have := cal_lt hs hk hx
  rw [show T s ms x.1 = Tf s ms x.1 x.1 from rfl, Tf_eq hs ms n x.1 x.1 (by omega) (Nat.le_refl _)]
theorem mem_cand {s : Nat} {ms0 ms : List Nat} {i k : Nat} {t : Int} : t ∈ cand s ms0 ms i k ↔ ∃ x ∈ cal s ms i k, ∃ y, T s ms0 x.1 = some y ∧ t = y + (x.2 : Int) := by
  unfold cand
  rw [List.mem_filterMap]
  constructor
  · rintro ⟨x, h, e⟩
    obtain ⟨y, e1, e2⟩ := Option.map_eq_some_iff.mp e
    exact ⟨x, h, y, e1, e2.symm⟩
  · rintro ⟨x, h, y, e1, e2⟩
    exact ⟨x, h, by rw [e1, e2]; rfl⟩
theorem T_bd {s : Nat} (hs : 2 ≤ s) {ms : List Nat} (hl : ms.length ≤ 5) : ∀ (n k : Nat) (t : Int), k ≤ n → T s ms k = some t → 0 ≤ t ∧ t ≤ 5 * (k : Int) ∧ (0 < k → 1 ≤ t)
  | n, k, t, hn, h => by
    by_cases hk : k = 0
    · subst hk
      rw [T_zero] at h
      cases h
      exact ⟨Int.le_refl _, Int.le_refl _, fun z => absurd z (by omega)⟩
    · cases n with
      | zero => exact absurd hn (by omega)
      | succ n =>
        rw [T_pos hs ms (by omega)] at h
        obtain ⟨x, hx, y, e1, e2⟩ := mem_cand.mp (minL_mem h).1
        have h1 := cal_lt hs (by omega) hx
        obtain ⟨a, b, _⟩ := T_bd hs hl n x.1 y (by omega) e1
        obtain ⟨c, p⟩ := x
        obtain ⟨j, m, h3, _, h4⟩ := (mem_cal (by omega)).mp hx
        have := (List.getElem?_eq_some_iff.mp h3).1
        have h1 : c < k := h1
        have e2 : t = y + (p : Int) := e2
        have b : y ≤ 5 * (c : Int) := b
        omega
/-! ### closures -/
def addN (st : List Nat × List Nat) (c : Nat) : List Nat × List Nat := if c ∈ st.1 then st else (st.1 ++ [c], st.2 ++ [c])
def rnd (f : Nat → List Nat) (st : List Nat × List Nat) (layer : List Nat) : List Nat × List Nat := layer.foldl (fun st x => (f x).foldl addN st) st
def clo (f : Nat → List Nat) : Nat → List Nat → List Nat → List Nat
  | 0, ks, _ => ks
  | n + 1, ks, layer => if layer = [] then ks else clo f n (rnd f (ks, []) layer).1 (rnd f (ks, []) layer).2
structure RN (ks : List Nat) (S : Nat → Prop) (st : List Nat × List Nat) : Prop where
  e : st.1 = ks ++ st.2
  nd : st.1.Nodup
  s : ∀ c ∈ st.2, S c
theorem RN.add {ks : List Nat} {S : Nat → Prop} {st : List Nat × List Nat} (h : RN ks S st) {c : Nat} (hc : S c) : RN ks S (addN st c) ∧ c ∈ (addN st c).1 ∧ (∀ x ∈ st.1, x ∈ (addN st c).1) := by
  unfold addN
  by_cases z : c ∈ st.1
  · rw [if_pos z]
    exact ⟨h, z, fun _ hx => hx⟩
  · rw [if_neg z]
    refine ⟨⟨?_, ?_, fun x hx => ?_⟩, List.mem_append_right _ (List.mem_singleton.mpr rfl), fun x hx => List.mem_append_left _ hx⟩
    · show st.1 ++ [c] = ks ++ (st.2 ++ [c])
      rw [h.e, List.append_assoc]
    · show (st.1 ++ [c]).Nodup
      rw [List.nodup_append]
      exact ⟨h.nd, by simp, fun a ha b hb e => by rw [List.mem_singleton] at hb; subst hb; subst e; exact z ha⟩
    · rcases List.mem_append.mp hx with hx | hx
      · exact h.s x hx
      · rw [List.mem_singleton] at hx; subst hx; exact hc
theorem RN.adds {ks : List Nat} {S : Nat → Prop} : ∀ {l : List Nat} {st : List Nat × List Nat}, RN ks S st → (∀ c ∈ l, S c) → RN ks S (l.foldl addN st) ∧ (∀ c ∈ l, c ∈ (l.foldl addN st).1) ∧ (∀ x ∈ st.1, x ∈ (l.foldl addN st).1)
  | [], st, h, _ => ⟨h, (fun _ z => nomatch z), fun _ hx => hx⟩
  | c :: l, st, h, hl => by
    obtain ⟨a, b, d⟩ := h.add (hl c List.mem_cons_self)
    obtain ⟨a2, b2, d2⟩ := RN.adds (l := l) a fun x hx => hl x (List.mem_cons_of_mem _ hx)
    refine ⟨a2, fun x hx => ?_, fun x hx => d2 x (d x hx)⟩
    rcases List.mem_cons.mp hx with rfl | hx
    · exact d2 _ b
    · exact b2 x hx
theorem RN.rnd {ks : List Nat} {S : Nat → Prop} {f : Nat → List Nat} : ∀ {l : List Nat} {st : List Nat × List Nat}, RN ks S st → (∀ x ∈ l, ∀ c ∈ f x, S c) → RN ks S (rnd f st l) ∧ (∀ x ∈ l, ∀ c ∈ f x, c ∈ (rnd f st l).1) ∧ (∀ x ∈ st.1, x ∈ (rnd f st l).1)
  | [], st, h, _ => ⟨h, (fun _ z => nomatch z), fun _ hx => hx⟩
  | y :: l, st, h, hl => by
    obtain ⟨a, b, d⟩ := h.adds (l := f y) (hl y List.mem_cons_self)
    obtain ⟨a2, b2, d2⟩ := RN.rnd (f := f) (l := l) a fun x hx => hl x (List.mem_cons_of_mem _ hx)
    refine ⟨a2, fun x hx => ?_, fun x hx => d2 x (d x hx)⟩
    rcases List.mem_cons.mp hx with rfl | hx
    · exact fun c hc => d2 c (b c hc)
    · exact b2 x hx
theorem len_split (p : Nat → Bool) : ∀ l : List Nat, l.length = (l.filter p).length + (l.filter fun x => !p x).length
  | [] => rfl
  | x :: l => by
    have := len_split p l
    cases h : p x <;> simp [h] <;> omega
theorem nodup_bd : ∀ (n : Nat) {l : List Nat} {B : Nat}, l.Nodup → (∀ x ∈ l, B ≤ x ∧ x < B + n) → l.length ≤ n
  | 0, l, B, _, h => by
    cases l with
    | nil => exact Nat.le_refl _
    | cons x l => have := h x List.mem_cons_self; omega
  | n + 1, l, B, hn, h => by
    have h1 : (l.filter fun x => !decide (x = B + n)).length ≤ n := nodup_bd n (B := B) (hn.sublist List.filter_sublist) fun x hx => by
      obtain ⟨a, b⟩ := List.mem_filter.mp hx
      have := h x a
      have : x ≠ B + n := by simpa using b
      omega
    have h2 : (l.filter fun x => decide (x = B + n)).length ≤ 1 := by
      have hn2 := hn.sublist (List.filter_sublist (p := fun x => decide (x = B + n)))
      match hq : l.filter fun x => decide (x = B + n) with
      | [] => exact Nat.zero_le _
      | [x] => exact Nat.le_refl _
      | x :: y :: r =>
        rw [hq] at hn2
        have hx : x ∈ l.filter fun x => decide (x = B + n) := by rw [hq]; exact List.mem_cons_self
        have hy : y ∈ l.filter fun x => decide (x = B + n) := by rw [hq]; exact List.mem_cons_of_mem _ List.mem_cons_self
        have e1 : x = B + n := by simpa using (List.mem_filter.mp hx).2
        have e2 : y = B + n := by simpa using (List.mem_filter.mp hy).2
        exact absurd (List.mem_cons_self (a := y) (l := r)) (by
          intro z
          exact (List.nodup_cons.mp hn2).1 (by rw [e1, ← e2]; exact z))
    have : l.length = (l.filter fun x => decide (x = B + n)).length + (l.filter fun x => !decide (x = B + n)).length := by
      exact len_split _ l
    omega
structure Fn (f : Nat → List Nat) (μ : Nat → Nat) : Prop where
  dec : ∀ x c, c ∈ f x → ∀ j, μ x < 2 ^ j → ∃ j', j = j' + 1 ∧ μ c < 2 ^ j'
  itv : ∀ B, ∃ B', ∀ x c, B ≤ x → x < B + 21 → c ∈ f x → B' ≤ c ∧ c < B' + 21
  le : ∀ x c, c ∈ f x → c ≤ x
structure CI (f : Nat → List Nat) (μ : Nat → Nat) (P n : Nat) (ks layer : List Nat) : Prop where
  nd : ks.Nodup
  ln : layer.Nodup
  sub : ∀ x ∈ layer, x ∈ ks
  ms : ∀ x ∈ layer, ∃ j, n = j + 1 ∧ μ x < 2 ^ j
  itv : ∃ B, ∀ x ∈ layer, B ≤ x ∧ x < B + 21
  cl : ∀ x ∈ ks, x ∉ layer → ∀ c ∈ f x, c ∈ ks
  le : ∀ x ∈ ks, x ≤ P
  len : ks.length + 21 * n ≤ 3000
theorem CI.l21 {f : Nat → List Nat} {μ : Nat → Nat} {P n : Nat} {ks layer : List Nat} (h : CI f μ P n ks layer) : layer.length ≤ 21 := by
  obtain ⟨B, hB⟩ := h.itv
  exact nodup_bd 21 h.ln hB
theorem CI.step {f : Nat → List Nat} {μ : Nat → Nat} (F : Fn f μ) {P n : Nat} {ks layer : List Nat} (h : CI f μ P (n + 1) ks layer) : CI f μ P n (rnd f (ks, []) layer).1 (rnd f (ks, []) layer).2 ∧ ∀ x ∈ ks, x ∈ (rnd f (ks, []) layer).1 := by
  obtain ⟨r, a, b⟩ := RN.rnd (ks := ks) (S := fun c => ∃ x ∈ layer, c ∈ f x) (f := f) (l := layer) (st := (ks, [])) ⟨(List.append_nil _).symm, h.nd, (fun _ z => nomatch z)⟩ fun x hx c hc => ⟨x, hx, hc⟩
  generalize rnd f (ks, []) layer = st at r a b
  obtain ⟨k1, fu⟩ := st
  obtain ⟨e, nd, s⟩ := r
  have e : k1 = ks ++ fu := e
  subst e
  have nd : (ks ++ fu).Nodup := nd
  obtain ⟨_, nf, dj⟩ := List.nodup_append.mp nd
  have it : ∃ B, ∀ x ∈ fu, B ≤ x ∧ x < B + 21 := by
    obtain ⟨B, hB⟩ := h.itv
    obtain ⟨B', hB'⟩ := F.itv B
    refine ⟨B', fun c hc => ?_⟩
    obtain ⟨x, hx, hcx⟩ := s c hc
    exact hB' x c (hB x hx).1 (hB x hx).2 hcx
  refine ⟨⟨nd, nf, fun x hx => List.mem_append_right _ hx, fun c hc => ?_, it, fun x hx hn c hc => ?_, fun x hx => ?_, ?_⟩, b⟩
  · obtain ⟨x, hx, hcx⟩ := s c hc
    obtain ⟨j, e, hj⟩ := h.ms x hx
    obtain rfl : n = j := by omega
    exact F.dec x c hcx n hj
  · have hx' : x ∈ ks := (List.mem_append.mp hx).resolve_right hn
    by_cases hl : x ∈ layer
    · exact a x hl c hc
    · exact b c (h.cl x hx' hl c hc)
  · rcases List.mem_append.mp hx with hx | hx
    · exact h.le x hx
    · obtain ⟨y, hy, hcy⟩ := s x hx
      have := F.le y x hcy
      have := h.le y (h.sub y hy)
      omega
  · obtain ⟨B, hB⟩ := it
    have := nodup_bd 21 nf hB
    have := h.len
    show (ks ++ fu).length + 21 * n ≤ 3000
    rw [List.length_append]
    omega
theorem clo_ok {f : Nat → List Nat} {μ : Nat → Nat} (F : Fn f μ) {P : Nat} : ∀ (n : Nat) {ks layer : List Nat}, CI f μ P n ks layer → (clo f n ks layer).Nodup ∧ (∀ x ∈ ks, x ∈ clo f n ks layer) ∧ (∀ x ∈ clo f n ks layer, ∀ c ∈ f x, c ∈ clo f n ks layer) ∧ (∀ x ∈ clo f n ks layer, x ≤ P) ∧ (clo f n ks layer).length ≤ 3000
  | 0, ks, layer, h => by
    have hl : layer = [] := by
      cases layer with
      | nil => rfl
      | cons x r => obtain ⟨j, e, _⟩ := h.ms x List.mem_cons_self; omega
    subst hl
    exact ⟨h.nd, fun _ hx => hx, fun x hx => h.cl x hx (fun z => nomatch z), h.le, by have := h.len; show ks.length ≤ 3000; omega⟩
  | n + 1, ks, layer, h => by
    unfold clo
    by_cases hl : layer = []
    · rw [if_pos hl]
      subst hl
      exact ⟨h.nd, fun _ hx => hx, fun x hx => h.cl x hx (fun z => nomatch z), h.le, by have := h.len; omega⟩
    · rw [if_neg hl]
      obtain ⟨a, b⟩ := h.step F
      obtain ⟨c1, c2, c3, c4, c5⟩ := clo_ok F n a
      exact ⟨c1, fun x hx => c2 x (b x hx), c3, c4, c5⟩
/-- of callers -/
def cf (s : Nat) (ms : List Nat) (x : Nat) : List Nat := if 0 < x then (cal s ms 0 x).map (·.1) else []
theorem mem_cf {s : Nat} (hs : 0 < s) {ms : List Nat} {x c : Nat} : c ∈ cf s ms x ↔ 0 < x ∧ ∃ m ∈ ms, c * s + m = x := by
  unfold cf
  by_cases h : 0 < x
  · rw [if_pos h, List.mem_map]
    constructor
    · rintro ⟨⟨c', p⟩, h1, rfl⟩
      obtain ⟨j, m, h2, h3, _⟩ := (mem_cal hs).mp h1
      exact ⟨h, m, List.mem_of_getElem? h2, h3⟩
    · rintro ⟨_, m, hm, h3⟩
      obtain ⟨j, hj⟩ := List.getElem?_of_mem hm
      exact ⟨(c, 0 + j + 1), (mem_cal hs).mpr ⟨j, m, hj, h3, rfl⟩, rfl⟩
  · rw [if_neg h]
    exact ⟨(fun z => nomatch z), fun z => absurd z.1 h⟩
theorem cf_fn {s : Nat} (hs : 2 ≤ s) {ms : List Nat} (hm : ∀ m ∈ ms, m ≤ 20) : Fn (cf s ms) id := by
  have key : ∀ x c, c ∈ cf s ms x → 0 < x ∧ 2 * c ≤ x ∧ ∃ m ≤ 20, c * s + m = x := fun x c h => by
    obtain ⟨h1, m, h2, h3⟩ := (mem_cf (by omega)).mp h
    have : c * 2 ≤ c * s := Nat.mul_le_mul_left c hs
    exact ⟨h1, by omega, m, hm m h2, h3⟩
  refine ⟨fun x c h j hj => ?_, fun B => ⟨(B - 20 + s - 1) / s, fun x c h1 h2 h => ?_⟩, fun x c h => ?_⟩
  · obtain ⟨h1, h2, _⟩ := key x c h
    have hj : x < 2 ^ j := hj
    cases j with
    | zero => rw [Nat.pow_zero] at hj; omega
    | succ j => exact ⟨j, rfl, by show c < 2 ^ j; rw [Nat.pow_succ] at hj; omega⟩
  · obtain ⟨h3, _, m, h4, h5⟩ := key x c h
    generalize hq : (B - 20 + s - 1) / s = q
    have q1 : q * s ≤ B - 20 + s - 1 := by rw [← hq]; exact Nat.div_mul_le_self ..
    have q2 : B - 20 + s - 1 < (q + 1) * s := by
      rw [← hq, Nat.mul_comm]; exact Nat.lt_mul_div_succ _ (by omega)
    rw [Nat.add_mul, Nat.one_mul] at q2
    constructor
    · refine Nat.le_of_not_lt fun z => ?_
      have : (c + 1) * s ≤ q * s := Nat.mul_le_mul_right s z
      rw [Nat.add_mul, Nat.one_mul] at this
      omega
    · refine Nat.lt_of_not_le fun z => ?_
      have : (q + 21) * s ≤ c * s := Nat.mul_le_mul_right s z
      rw [Nat.add_mul] at this
      have : 21 * 2 ≤ 21 * s := Nat.mul_le_mul_left 21 hs
      omega
  · obtain ⟨h1, h2, _⟩ := key x c h
    omega
/-! ### sums -/
def lw (s m n : Nat) : Nat := (n - m + s - 1) / s
theorem lt_lw {s m n c : Nat} (hs : 0 < s) : c < lw s m n ↔ c * s + m < n := by
  unfold lw
  rw [show c < (n - m + s - 1) / s ↔ c + 1 ≤ (n - m + s - 1) / s from .rfl, Nat.le_div_iff_mul_le hs, Nat.add_mul, Nat.one_mul]
  omega
theorem lw_eq {s m n a : Nat} (hs : 0 < s) (h : ∀ c, c * s + m < n ↔ c < a) : lw s m n = a := by
  have h1 := (lt_lw (m := m) (n := n) (c := a) hs).trans (h a)
  have h2 := (lt_lw (m := m) (n := n) (c := lw s m n) hs).trans (h _)
  omega
def few (s : Nat) : List Nat → Nat → Nat → List (Nat × Nat × Bool)
  | [], _, _ => []
  | m :: ms, i, n => if m < n then (lw s m n, i + 1, decide (m = 0)) :: few s ms (i + 1) n else few s ms (i + 1) n
theorem few_cons (s m : Nat) (ms : List Nat) (i n : Nat) : few s (m :: ms) i n = if m < n then (lw s m n, i + 1, decide (m = 0)) :: few s ms (i + 1) n else few s ms (i + 1) n := rfl
theorem few_len (s n : Nat) : ∀ (ms : List Nat) (i : Nat), (few s ms i n).length ≤ ms.length
  | [], _ => Nat.le_refl _
  | m :: ms, i => by
    rw [few_cons]
    have := few_len s n ms (i + 1)
    split <;> simp only [List.length_cons] <;> omega
theorem few_map (s n c : Nat) : ∀ (ms : List Nat) (i : Nat), c ∈ (few s ms i n).map (·.1) ↔ ∃ m ∈ ms, m < n ∧ c = lw s m n
  | [], _ => by simp [few]
  | m :: ms, i => by
    have ih := few_map s n c ms (i + 1)
    rw [few_cons]
    split
    · rename_i h
      rw [List.map_cons, List.mem_cons, ih]
      constructor
      · rintro (h1 | ⟨m', h1, h2, h3⟩)
        · exact ⟨m, List.mem_cons_self, h, h1⟩
        · exact ⟨m', List.mem_cons_of_mem _ h1, h2, h3⟩
      · rintro ⟨m', h1, h2, h3⟩
        rcases List.mem_cons.mp h1 with rfl | h1
        · exact .inl h3
        · exact .inr ⟨m', h1, h2, h3⟩
    · rename_i h
      rw [ih]
      constructor
      · rintro ⟨m', h1, h2, h3⟩
        exact ⟨m', List.mem_cons_of_mem _ h1, h2, h3⟩
      · rintro ⟨m', h1, h2, h3⟩
        rcases List.mem_cons.mp h1 with rfl | h1
        · exact absurd h2 h
        · exact ⟨m', h1, h2, h3⟩
def ff (s : Nat) (ms : List Nat) (n : Nat) : List Nat := if 1 < n then (few s ms 0 n).map (·.1) else []
theorem mem_ff {s : Nat} {ms : List Nat} {n c : Nat} : c ∈ ff s ms n ↔ 1 < n ∧ ∃ m ∈ ms, m < n ∧ c = lw s m n := by
  unfold ff
  by_cases h : 1 < n
  · rw [if_pos h, few_map]
    exact ⟨fun z => ⟨h, z⟩, fun z => z.2⟩
  · rw [if_neg h]
    exact ⟨(fun z => nomatch z), fun z => absurd z.1 h⟩
theorem lw_pos {s m n : Nat} (hs : 0 < s) (h : m < n) : 1 ≤ lw s m n := (lt_lw hs).mpr (by omega)
theorem lw_lt {s m n : Nat} (hs : 2 ≤ s) (h : 1 < n) : lw s m n < n := by
  refine Nat.lt_of_not_le fun z => ?_
  have q := (lt_lw (s := s) (m := m) (n := n) (c := n - 1) (by omega)).mp (by omega)
  have : (n - 1) * 2 ≤ (n - 1) * s := Nat.mul_le_mul_left _ hs
  omega
theorem ff_fn {s : Nat} (hs : 2 ≤ s) {ms : List Nat} (hm : ∀ m ∈ ms, m ≤ 20) : Fn (ff s ms) fun x => x - 1 := by
  have key : ∀ x c, c ∈ ff s ms x → 1 < x ∧ 1 ≤ c ∧ c < x ∧ ∃ m ≤ 20, (c - 1) * s + m < x ∧ x ≤ c * s + m := fun x c h => by
    obtain ⟨h1, m, h2, h3, rfl⟩ := mem_ff.mp h
    have p := lw_pos (s := s) (by omega) h3
    refine ⟨h1, p, lw_lt hs h1, m, hm m h2, (lt_lw (by omega)).mp (by omega), Nat.le_of_not_lt fun z => ?_⟩
    have := (lt_lw (s := s) (by omega)).mpr z
    omega
  refine ⟨fun x c h j hj => ?_, fun B => ⟨(B - 20 + s - 1) / s, fun x c h1 h2 h => ?_⟩, fun x c h => ?_⟩
  · obtain ⟨h1, h2, _, m, h3, h4, h5⟩ := key x c h
    have : (c - 1) * 2 ≤ (c - 1) * s := Nat.mul_le_mul_left _ hs
    have hj : x - 1 < 2 ^ j := hj
    cases j with
    | zero => rw [Nat.pow_zero] at hj; omega
    | succ j => exact ⟨j, rfl, by show c - 1 < 2 ^ j; rw [Nat.pow_succ] at hj; omega⟩
  · obtain ⟨h3, h6, _, m, h4, h5, h7⟩ := key x c h
    generalize hq : (B - 20 + s - 1) / s = q
    have q1 : q * s ≤ B - 20 + s - 1 := by rw [← hq]; exact Nat.div_mul_le_self ..
    have q2 : B - 20 + s - 1 < (q + 1) * s := by
      rw [← hq, Nat.mul_comm]; exact Nat.lt_mul_div_succ _ (by omega)
    rw [Nat.add_mul, Nat.one_mul] at q2
    constructor
    · refine Nat.le_of_not_lt fun z => ?_
      have : (c + 1) * s ≤ q * s := Nat.mul_le_mul_right s z
      rw [Nat.add_mul, Nat.one_mul] at this
      omega
    · refine Nat.lt_of_not_le fun z => ?_
      have : (q + 20) * s ≤ (c - 1) * s := Nat.mul_le_mul_right s (by omega)
      rw [Nat.add_mul] at this
      have : 20 * 2 ≤ 20 * s := Nat.mul_le_mul_left 20 hs
      omega
  · obtain ⟨h1, h2, h3, _⟩ := key x c h
    omega
section
variable (s : Nat) (ms0 : List Nat)
def C : Nat → Nat
  | 0 => 0
  | n + 1 => C n + if (T s ms0 n).isSome = true then 1 else 0
def M : Nat → Int
  | 0 => 0
  | n + 1 => max (M n) ((T s ms0 n).getD 0)
def told (m n : Nat) : Nat := C s ms0 (lw s m n) - if m = 0 then 1 else 0
def vm (m i n : Nat) : Int := if 0 < told s ms0 m n then M s ms0 (lw s m n) + ((i + 1 : Nat) : Int) else 0
def sm : List Nat → Nat → Nat
  | [], _ => 0
  | m :: ms, n => told s ms0 m n + sm ms n
def lm : List Nat → Nat → Nat → Int
  | [], _, _ => 0
  | m :: ms, i, n => max (vm s ms0 m i n) (lm ms (i + 1) n)
end
def mx0 : List Int → Int
  | [] => 0
  | x :: l => max x (mx0 l)
section
variable {s : Nat} {ms0 : List Nat}
theorem C_le : ∀ n, C s ms0 n ≤ n
  | 0 => Nat.le_refl _
  | n + 1 => by
    have := C_le n
    unfold C
    split <;> omega
theorem C_pos : ∀ {n}, 1 ≤ n → 1 ≤ C s ms0 n
  | 0, h => absurd h (by decide)
  | 1, _ => Nat.le_refl _
  | n + 2, _ => by
    have := C_pos (n := n + 1) (by omega)
    show 1 ≤ C s ms0 (n + 1) + _
    omega
theorem M_nn : ∀ n, 0 ≤ M s ms0 n
  | 0 => Int.le_refl _
  | n + 1 => by
    have := M_nn n
    unfold M
    omega
theorem M_zero : ∀ {n}, C s ms0 n ≤ 1 → M s ms0 n = 0
  | 0, _ => rfl
  | n + 1, h => by
    have h : C s ms0 n + (if (T s ms0 n).isSome = true then 1 else 0) ≤ 1 := h
    show max (M s ms0 n) ((T s ms0 n).getD 0) = 0
    by_cases hn : n = 0
    · subst hn; rfl
    · have p := C_pos (s := s) (ms0 := ms0) (n := n) (by omega)
      cases e : T s ms0 n with
      | none =>
        rw [e] at h
        have h : C s ms0 n + 0 ≤ 1 := h
        rw [M_zero (n := n) (by omega)]
        rfl
      | some x =>
        rw [e] at h
        have h : C s ms0 n + 1 ≤ 1 := h
        omega
theorem M_bd (hs : 2 ≤ s) (hl : ms0.length ≤ 5) : ∀ n, M s ms0 n ≤ 5 * (n : Int)
  | 0 => Int.le_refl _
  | n + 1 => by
    have := M_bd hs hl n
    show max (M s ms0 n) ((T s ms0 n).getD 0) ≤ _
    cases e : T s ms0 n with
    | none => show max _ (0 : Int) ≤ _; omega
    | some x =>
      have := (T_bd hs hl n n x (Nat.le_refl _) e).2.1
      show max _ x ≤ _
      omega
theorem lm_nn (n : Nat) : ∀ (ms : List Nat) (i : Nat), 0 ≤ lm s ms0 ms i n
  | [], _ => Int.le_refl _
  | m :: ms, i => by
    have := lm_nn n ms (i + 1)
    show 0 ≤ max _ _
    omega
theorem cand_nn (hs : 2 ≤ s) (hl : ms0.length ≤ 5) {ms : List Nat} {i n : Nat} {x : Int} (h : x ∈ cand s ms0 ms i n) : 0 ≤ x := by
  obtain ⟨y, _, t, e, rfl⟩ := mem_cand.mp h
  have := (T_bd hs hl _ _ t (Nat.le_refl _) e).1
  omega
theorem mx0_nn : ∀ l : List Int, 0 ≤ mx0 l
  | [] => Int.le_refl _
  | x :: l => by
    have := mx0_nn l
    show 0 ≤ max _ _
    omega
theorem one_step (hs : 2 ≤ s) (hl : ms0.length ≤ 5) (m i : Nat) (ms : List Nat) {n : Nat} (hn : 1 ≤ n) :
    told s ms0 m (n + 1) + (cand s ms0 ms (i + 1) n).length = told s ms0 m n + (cand s ms0 (m :: ms) i n).length ∧
    max (vm s ms0 m i (n + 1)) (mx0 (cand s ms0 ms (i + 1) n)) = max (vm s ms0 m i n) (mx0 (cand s ms0 (m :: ms) i n)) := by
  have hs0 : 0 < s := by omega
  by_cases hc : m ≤ n ∧ (n - m) % s = 0
  · obtain ⟨c, hc'⟩ : ∃ c, c = (n - m) / s := ⟨_, rfl⟩
    have ec : c * s + m = n := (call_iff hs0).mp ⟨hc.1, hc.2, hc'⟩
    have l1 : lw s m n = c := lw_eq hs0 fun c' => by
      constructor
      · intro h
        refine Nat.lt_of_not_le fun z => ?_
        have : c * s ≤ c' * s := Nat.mul_le_mul_right s z
        omega
      · intro h
        have : (c' + 1) * s ≤ c * s := Nat.mul_le_mul_right s h
        rw [Nat.add_mul] at this
        omega
    have l2 : lw s m (n + 1) = c + 1 := lw_eq hs0 fun c' => by
      constructor
      · intro h
        refine Nat.lt_of_not_le fun z => ?_
        have : (c + 1) * s ≤ c' * s := Nat.mul_le_mul_right s z
        rw [Nat.add_mul] at this
        omega
      · intro h
        have : c' * s ≤ c * s := Nat.mul_le_mul_right s (by omega)
        omega
    have ecal : cal s (m :: ms) i n = (c, i + 1) :: cal s ms (i + 1) n := by
      rw [cal_cons, if_pos hc, ← hc']
    have z1 : (if m = 0 then 1 else 0) ≤ C s ms0 c := by
      by_cases hm : m = 0
      · rw [if_pos hm]
        refine C_pos (Nat.pos_of_ne_zero fun z => ?_)
        rw [z, Nat.zero_mul] at ec
        omega
      · rw [if_neg hm]; exact Nat.zero_le _
    unfold vm told
    rw [l1, l2]
    show C s ms0 c + (if (T s ms0 c).isSome = true then 1 else 0) - _ + _ = _ ∧ max (if 0 < C s ms0 c + (if (T s ms0 c).isSome = true then 1 else 0) - _ then max (M s ms0 c) ((T s ms0 c).getD 0) + _ else 0) _ = _
    have ecd : cand s ms0 (m :: ms) i n = (match T s ms0 c with | some t => [t + ((i + 1 : Nat) : Int)] | none => []) ++ cand s ms0 ms (i + 1) n := by
      unfold cand
      rw [ecal, List.filterMap_cons]
      cases T s ms0 c <;> rfl
    rw [ecd]
    have z2 : (if m = 0 then 1 else 0 : Nat) ≤ 1 := by split <;> omega
    generalize (if m = 0 then 1 else 0 : Nat) = z at z1 z2
    have mn := M_nn (s := s) (ms0 := ms0) c
    cases e : T s ms0 c with
    | none =>
      refine ⟨by show C s ms0 c + 0 - z + (cand s ms0 ms (i + 1) n).length = C s ms0 c - z + (cand s ms0 ms (i + 1) n).length; rw [Nat.add_zero], ?_⟩
      show max (if 0 < C s ms0 c + 0 - z then max (M s ms0 c) 0 + _ else 0) _ = _
      rw [Nat.add_zero, show max (M s ms0 c) 0 = M s ms0 c by omega]
      rfl
    | some t =>
      have tn := (T_bd hs hl c c t (Nat.le_refl _) e).1
      refine ⟨by show C s ms0 c + 1 - z + _ = C s ms0 c - z + ((cand s ms0 ms (i + 1) n).length + 1); omega, ?_⟩
      show max (if 0 < C s ms0 c + 1 - z then max (M s ms0 c) t + _ else 0) _ = max (if 0 < C s ms0 c - z then _ else 0) (max (t + ((i + 1 : Nat) : Int)) (mx0 (cand s ms0 ms (i + 1) n)))
      have := mx0_nn (cand s ms0 ms (i + 1) n)
      rw [if_pos (by omega)]
      by_cases hz : 0 < C s ms0 c - z
      · rw [if_pos hz]
        omega
      · rw [if_neg hz]
        by_cases h1 : C s ms0 c ≤ 1
        · rw [M_zero h1]
          omega
        · omega
  · have l1 : lw s m (n + 1) = lw s m n := lw_eq hs0 fun c' => by
      rw [lt_lw hs0]
      have : c' * s + m ≠ n := fun z => by
        obtain ⟨a, b, _⟩ := (call_iff hs0).mpr z
        exact hc ⟨a, b⟩
      omega
    have ecal : cal s (m :: ms) i n = cal s ms (i + 1) n := by rw [cal_cons, if_neg hc]
    have ecd : cand s ms0 (m :: ms) i n = cand s ms0 ms (i + 1) n := by unfold cand; rw [ecal]
    unfold vm told
    rw [l1, ecd]
    exact ⟨rfl, rfl⟩
theorem all_step (hs : 2 ≤ s) (hl : ms0.length ≤ 5) {n : Nat} (hn : 1 ≤ n) : ∀ (ms : List Nat) (i : Nat), sm s ms0 ms (n + 1) = sm s ms0 ms n + (cand s ms0 ms i n).length ∧ lm s ms0 ms i (n + 1) = max (lm s ms0 ms i n) (mx0 (cand s ms0 ms i n))
  | [], _ => ⟨rfl, rfl⟩
  | m :: ms, i => by
    obtain ⟨a, b⟩ := all_step hs hl hn ms (i + 1)
    obtain ⟨c, d⟩ := one_step hs hl m i ms hn
    refine ⟨?_, ?_⟩
    · show told s ms0 m (n + 1) + sm s ms0 ms (n + 1) = told s ms0 m n + sm s ms0 ms n + _
      omega
    · show max (vm s ms0 m i (n + 1)) (lm s ms0 ms (i + 1) (n + 1)) = max (max (vm s ms0 m i n) (lm s ms0 ms (i + 1) n)) _
      rw [b]
      omega
theorem one_zero (hs : 2 ≤ s) : ∀ (ms : List Nat) (i : Nat), sm s ms0 ms 1 = 0 ∧ lm s ms0 ms i 1 = 0
  | [], _ => ⟨rfl, rfl⟩
  | m :: ms, i => by
    obtain ⟨a, b⟩ := one_zero hs ms (i + 1)
    have t : told s ms0 m 1 = 0 := by
      unfold told
      by_cases hm : m = 0
      · rw [if_pos hm]
        have : lw s m 1 = 1 := lw_eq (by omega) fun c => by
          subst hm
          constructor
          · intro h
            refine Nat.lt_of_not_le fun z => ?_
            have : 1 * s ≤ c * s := Nat.mul_le_mul_right s z
            omega
          · intro h
            obtain rfl : c = 0 := by omega
            omega
        rw [this]
        rfl
      · have : lw s m 1 = 0 := lw_eq (by omega) fun c => by omega
        rw [this, if_neg hm]
        rfl
    refine ⟨?_, ?_⟩
    · show told s ms0 m 1 + sm s ms0 ms 1 = 0
      omega
    · show max (vm s ms0 m i 1) (lm s ms0 ms (i + 1) 1) = 0
      unfold vm
      rw [t, b]
      rfl
theorem cal_one {k : Nat} : ∀ {ms : List Nat} {i : Nat}, 0 < s → (ms.map (· % s)).Nodup → (cal s ms i k).length ≤ 1
  | [], _, _, _ => Nat.zero_le _
  | m :: ms, i, hs, h => by
    rw [List.map_cons, List.nodup_cons] at h
    rw [cal_cons]
    split
    · rename_i hc
      have : cal s ms (i + 1) k = [] := by
        refine List.eq_nil_iff_forall_not_mem.mpr fun x hx => ?_
        obtain ⟨c, p⟩ := x
        obtain ⟨j, m', h1, h2, _⟩ := (mem_cal hs).mp hx
        have e := (call_iff (c := (k - m) / s) hs).mp ⟨hc.1, hc.2, rfl⟩
        refine h.1 (List.mem_map.mpr ⟨m', List.mem_of_getElem? h1, ?_⟩)
        have a1 : (c * s + m') % s = m' % s := by rw [Nat.add_comm, Nat.add_mul_mod_self_right]
        have a2 : ((k - m) / s * s + m) % s = m % s := by rw [Nat.add_comm, Nat.add_mul_mod_self_right]
        rw [h2] at a1
        rw [e] at a2
        rw [← a1, a2]
      rw [this]
      exact Nat.le_refl _
    · exact cal_one hs h.2
theorem sums (hs : 2 ≤ s) (hl : ms0.length ≤ 5) (hp : (ms0.map (· % s)).Nodup) : ∀ n, 1 ≤ n → C s ms0 n = 1 + sm s ms0 ms0 n ∧ M s ms0 n = lm s ms0 ms0 0 n
  | 0, h => absurd h (by decide)
  | 1, _ => by
    obtain ⟨a, b⟩ := one_zero (ms0 := ms0) hs ms0 0
    rw [a, b]
    exact ⟨rfl, rfl⟩
  | n + 2, _ => by
    obtain ⟨a, b⟩ := sums hs hl hp (n + 1) (by omega)
    obtain ⟨c, d⟩ := all_step (ms0 := ms0) hs hl (n := n + 1) (by omega) ms0 0
    have e := T_pos hs ms0 (k := n + 1) (by omega)
    have hlen : (cand s ms0 ms0 0 (n + 1)).length ≤ 1 := by
      unfold cand
      exact Nat.le_trans (List.length_filterMap_le ..) (cal_one (by omega) hp)
    have nn := fun x => cand_nn hs hl (ms := ms0) (i := 0) (n := n + 1) (x := x)
    have ln := lm_nn (s := s) (ms0 := ms0) (n + 1) ms0 0
    rw [c, d]
    show C s ms0 (n + 1) + (if (T s ms0 (n + 1)).isSome = true then 1 else 0) = _ ∧ max (M s ms0 (n + 1)) ((T s ms0 (n + 1)).getD 0) = _
    rw [e]
    match h : cand s ms0 ms0 0 (n + 1) with
    | [] =>
      refine ⟨by show _ + 0 = 1 + (_ + 0); omega, ?_⟩
      show max _ (0 : Int) = max _ (0 : Int)
      omega
    | [x] =>
      have := nn x (by rw [h]; exact List.mem_cons_self)
      refine ⟨by show _ + 1 = 1 + (_ + 1); omega, ?_⟩
      show max _ x = max _ (max x 0)
      omega
    | x :: y :: r => rw [h, List.length_cons, List.length_cons] at hlen; omega
/-- the program's own going through -/
def sfold (acc : Nat × Int) (x : Nat × Nat × Bool) : Nat × Int :=
  if 0 < C s ms0 x.1 - (if x.2.2 = true then 1 else 0) then (acc.1 + (C s ms0 x.1 - (if x.2.2 = true then 1 else 0)), max acc.2 (M s ms0 x.1 + (x.2.1 : Int))) else acc
theorem sfold_ok (hs : 0 < s) {n : Nat} (hn : 1 ≤ n) : ∀ (ms : List Nat) (i a : Nat) (b : Int), 0 ≤ b → (few s ms i n).foldl (sfold (s := s) (ms0 := ms0)) (a, b) = (a + sm s ms0 ms n, max b (lm s ms0 ms i n))
  | [], i, a, b, h => by
    show (a, b) = (a + 0, max b 0)
    rw [Nat.add_zero, show max b 0 = b by omega]
  | m :: ms, i, a, b, h => by
    rw [few_cons]
    show _ = (a + (told s ms0 m n + sm s ms0 ms n), max b (max (vm s ms0 m i n) (lm s ms0 ms (i + 1) n)))
    by_cases hm : m < n
    · rw [if_pos hm, List.foldl_cons]
      have e : sfold (s := s) (ms0 := ms0) (a, b) (lw s m n, i + 1, decide (m = 0)) = (a + told s ms0 m n, max b (vm s ms0 m i n)) := by
        unfold sfold vm told
        dsimp only
        have z : (if decide (m = 0) = true then 1 else 0 : Nat) = if m = 0 then 1 else 0 := by
          by_cases hz : m = 0
          · rw [if_pos hz, decide_eq_true hz, if_pos rfl]
          · rw [if_neg hz, decide_eq_false hz, if_neg Bool.false_ne_true]
        rw [z]
        generalize C s ms0 (lw s m n) - (if m = 0 then 1 else 0) = q
        by_cases hq : 0 < q
        · rw [if_pos hq, if_pos hq]
        · rw [if_neg hq, if_neg hq, show q = 0 by omega, Nat.add_zero, show max b 0 = b by omega]
      rw [e, sfold_ok hs hn ms (i + 1) _ _ (by omega), Nat.add_assoc]
      congr 1
      omega
    · rw [if_neg hm, sfold_ok hs hn ms (i + 1) a b h]
      have l0 : lw s m n = 0 := lw_eq hs fun c => by omega
      have t0 : told s ms0 m n = 0 := by
        unfold told
        rw [l0]
        exact Nat.zero_sub _
      have v0 : vm s ms0 m i n = 0 := by
        unfold vm
        rw [t0]
        rfl
      have := lm_nn (s := s) (ms0 := ms0) n ms (i + 1)
      rw [t0, v0, Nat.zero_add]
      congr 1
      omega
end
/-- all are told -/
theorem all5 : ∀ n k, k ≤ n → (T 5 [1, 2, 3, 4, 5] k).isSome = true
  | n, k, h => by
    by_cases hk : k = 0
    · subst hk; rfl
    · cases n with
      | zero => omega
      | succ n =>
        rw [T_pos (by decide) _ (by omega)]
        have hm : ((k - 1) / 5, (k - 1) % 5 + 1) ∈ cal 5 [1, 2, 3, 4, 5] 0 k := by
          refine (mem_cal (by decide)).mpr ⟨(k - 1) % 5, (k - 1) % 5 + 1, ?_, by omega, by omega⟩
          have : (k - 1) % 5 < 5 := Nat.mod_lt _ (by decide)
          rcases (by omega : (k - 1) % 5 = 0 ∨ (k - 1) % 5 = 1 ∨ (k - 1) % 5 = 2 ∨ (k - 1) % 5 = 3 ∨ (k - 1) % 5 = 4) with e | e | e | e | e <;> rw [e] <;> rfl
        have ih := all5 n ((k - 1) / 5) (by omega)
        obtain ⟨t, ht⟩ := Option.isSome_iff_exists.mp ih
        cases e : minL (cand 5 [1, 2, 3, 4, 5] [1, 2, 3, 4, 5] 0 k) with
        | some x => rfl
        | none =>
          have q := minL_none e
          have : t + (((k - 1) % 5 + 1 : Nat) : Int) ∈ cand 5 [1, 2, 3, 4, 5] [1, 2, 3, 4, 5] 0 k := mem_cand.mpr ⟨_, hm, t, ht, rfl⟩
          rw [q] at this
          cases this
theorem C5 : ∀ n, C 5 [1, 2, 3, 4, 5] n = n
  | 0 => rfl
  | n + 1 => by
    show C 5 [1, 2, 3, 4, 5] n + (if (T 5 [1, 2, 3, 4, 5] n).isSome = true then 1 else 0) = n + 1
    rw [C5 n, all5 n n (Nat.le_refl _)]
    rfl
end SC

/-! G33: a call whose last argument is made for it alone; len(set(xs)); defs that call themselves. -/
namespace G
open PySem PySem.Spec PyProof.Rows
open L2 hiding St Inv Binds
/-! ### arguments, the last one owned by the call -/
inductive ArgO (K : PySem.W.Frag) (H : Hp) : List (Option OP) → List V → List PyData → List Addr → Prop
  | own {o : OP} {v : V} {d : PyData} {F : List Addr} : o.p H v d F → ArgO K H [some o] [v] [d] F
  | sh {ks : List (Option OP)} {vs : List V} {ds : List PyData} {F : List Addr} {v : V} {d : PyData} : Rp K H v d → ArgO K H ks vs ds F → ArgO K H (none :: ks) (v :: vs) (d :: ds) F
def AftOw (K : PySem.W.Frag) (mg : Str → Option Value) (κ : List SK) (W : WX) (ks : List (Option OP)) (σ : St) (H : Hp) (G : Nat → List Addr) (Q : List V → Hp → Prop) : RS (List PyData) → Prop
  | .ok ds ρ' => ∀ vs H' G' F, FR K κ ρ' σ H' G' → Rel H (Own κ G) H' (Own κ G') → ArgO K H' ks vs ds F → (∀ b ∈ F, (Own κ G b ∨ H b = none) ∧ ¬ Own κ G' b) → Q vs H'
  | .ex c p ρ' => ∀ cls dd H' G', ExcOk K mg c p cls dd H' → FR K κ ρ' σ H' G' → Rel H (Own κ G) H' (Own κ G') → W cls dd σ H'
  | .bad => False
def tPOw (K : PySem.W.Frag) (mg : Str → Option Value) (κ : List SK) (W : WX) (ks : List (Option OP)) (f : M (List PyData)) : TA := fun σ H Q => ∃ ρ G, FR K κ ρ σ H G ∧ AftOw K mg κ W ks σ H G Q (f ρ)
abbrev QOw (X : Cx) (κ : List SK) (W : WX) (ks : List (Option OP)) (es : List Expr) (f : M (List PyData)) : Prop := PA X es (tPOw X.K X.mg κ W ks f)
def aOne (fa : M PyData) : M (List PyData) := fun ρ => match fa ρ with
  | .ok d ρ' => .ok [d] ρ'
  | .ex c p ρ' => .ex c p ρ'
  | .bad => .bad
section
variable {X : Cx} {κ : List SK} {W : WX} {pa pb : Bool} {ks : List (Option OP)} {a : Expr} {es : List Expr} {fa : M PyData} {fs : M (List PyData)} {o : OP}
theorem qo_own (ha : QE X κ W pa (.ow o) a fa) (he : starEach [a] X.env = (false, eval a X.env) :: starEach [] X.env := by rfl) : QOw X κ W [some o] [a] (aOne fa) := by
  refine PA.imp (pa_cons ha pa_nil he) fun σ H Q ⟨ρ, G, f, q⟩ => ⟨ρ, G, f, ?_⟩
  unfold aOne at q
  cases e : fa ρ with
  | bad => rw [e] at q; exact q
  | ex c p ρ' => rw [e] at q; exact q
  | ok d ρ1 =>
    rw [e] at q
    exact fun v H1 G1 F f1 r1 s1 ok n => q [v] H1 G1 F f1 r1 (.own ok) n
theorem qo_sh (ha : QE X κ W pa .sh a fa) (hs : QOw X κ W ks es fs) (he : starEach (a :: es) X.env = (false, eval a X.env) :: starEach es X.env := by rfl) : QOw X κ W (none :: ks) (a :: es) (aCons fa fs) := by
  refine PA.imp (pa_cons ha hs he) fun σ H Q ⟨ρ, G, f, q⟩ => ⟨ρ, G, f, ?_⟩
  unfold aCons at q
  cases e : fa ρ with
  | bad => rw [e] at q; exact q
  | ex c p ρ' => rw [e] at q; exact q
  | ok d ρ1 =>
    rw [e] at q
    intro v1 H1 G1 F1 f1 r1 s1 ok1 n1
    refine ⟨ρ1, G1, f1, ?_⟩
    dsimp only at q
    cases e2 : fs ρ1 with
    | bad => rw [e2] at q; exact q
    | ex c p ρ' => rw [e2] at q; exact fun cls dd H' G' x f' r' => q cls dd H' G' x f' (r1.trans r')
    | ok ds ρ2 =>
      rw [e2] at q
      refine fun vs H2 G2 F2 f2 r2 ok2 n2 => q (v1 :: vs) H2 G2 F2 f2 (r1.trans r2) (.sh (Rp.kp (f1.kp r2) _ _ ok1.1) ok2) fun b hb => ⟨?_, (n2 b hb).2⟩
      rcases (n2 b hb).1 with z | z
      · exact r1.new b z
      · exact .inr (r1.non b z)
end
def gO (ks : List (Option OP)) (F : List Addr) : Nat → List Addr := fun j => match ks[j]? with
  | some (some _) => F
  | _ => []
section
variable {K : PySem.W.Frag} {H : Hp}
theorem ArgO.fr {ks : List (Option OP)} {vs : List V} {ds : List PyData} {F : List Addr} (a : ArgO K H ks vs ds F) : FR K (pK ks vs) ds (vs.map some) H (gO ks F) ∧ vs.length = ks.length ∧ (∀ b, Own (pK ks vs) (gO ks F) b → b ∈ F) := by
  induction a with
  | @own o v d F h =>
    refine ⟨⟨rfl, rfl, fun i k e => ?_, fun i j c o' c' o'' e e' b hb hb' => ?_⟩, rfl, fun b ⟨i, c, o', e, hb⟩ => ?_⟩
    · cases i with
      | zero => cases e; exact ⟨v, d, rfl, rfl, rfl, h⟩
      | succ i => simp [pK] at e
    · cases i with
      | zero =>
        cases j with
        | zero => rfl
        | succ j => simp [pK] at e'
      | succ i => simp [pK] at e
    · cases i with
      | zero => exact hb
      | succ i => simp [pK] at e
  | @sh ks vs ds F v d r t ih =>
    obtain ⟨f, hl, ho⟩ := ih
    refine ⟨⟨?_, ?_, fun i k e => ?_, fun i j c o' c' o'' e e' b hb hb' => ?_⟩, by rw [List.length_cons, List.length_cons, hl], fun b ⟨i, c, o', e, hb⟩ => ?_⟩
    · show (pK ks vs).length + 1 = (vs.map some).length + 1
      rw [f.l1]
    · show ds.length + 1 = (vs.map some).length + 1
      rw [f.l2]
    · cases i with
      | zero => cases e; exact ⟨v, d, rfl, rfl, r⟩
      | succ i => exact f.ok i k e
    · cases i with
      | zero => cases e
      | succ i =>
        cases j with
        | zero => cases e'
        | succ j => rw [f.dj i j c o' c' o'' e e' b hb hb']
    · cases i with
      | zero => cases e
      | succ i => exact ho b ⟨i, c, o', e, hb⟩
/-- what the caller's slots hold stands apart from what has changed -/
theorem FR.off {κ : List SK} {ρ : Ev} {σ : St} {H' : Hp} {G : Nat → List Addr} (f : FR K κ ρ σ H G) (kp : Kp H H') (h : ∀ b u, H b = some u → Own κ G b → H' b = some u) : FR K κ ρ σ H' G := by
  refine ⟨f.l1, f.l2, fun i k e => ?_, f.dj⟩
  have q := f.ok i k e
  cases k with
  | no => trivial
  | sh =>
    obtain ⟨v, d, e1, e2, h1⟩ := q
    exact ⟨v, d, e1, e2, Rp.kp kp _ _ h1⟩
  | ow c o =>
    obtain ⟨v, d, e1, e2, h0, h1⟩ := q
    refine ⟨v, d, e1, e2, h0, o.frame h1 (fun b hb => ?_) kp⟩
    obtain ⟨u, e3, _⟩ := o.live h1 b hb
    rw [e3]
    exact h b u e3 ⟨i, c, o, e, hb⟩
end
def eCallO (fa : M (List PyData)) (D : M PyData) : M PyData := fun ρ => match fa ρ with
  | .ok ds ρ1 => (match D ds with
    | .ok r _ => .ok r ρ1
    | .ex c p _ => .ex c p ρ1
    | .bad => .bad)
  | .ex c p ρ' => .ex c p ρ'
  | .bad => .bad
section
variable {X : Cx} {κ : List SK} {W : WX} {k k' : Nat} {ks : List (Option OP)} {D : M PyData} {fa : M (List PyData)} {x : Str} {p pos : Pos} {e : Expr} {es : List Expr}
theorem qe_callO (cx : Ce X W k) (F : GFn X.prog X.w X.K X.mg X.base x k' ks .sh D) (hk : k' ≤ k) (hg : Gl X x) (ha : QOw X κ W ks (e :: es) fa) (hdb : (x == ("__debug__" : Str)) = false := by decide)
    (he : starEach (e :: es) X.env = (false, eval e X.env) :: starEach es X.env := by rfl) (hpl : (backTo pos (starEach es X.env)).any (·.1) = false := by rfl) : QE X κ W false .sh (.Call (.Name x p) (e :: es) [] pos) (eCallO fa D) := by
  obtain ⟨f, fd, ps, hm, hkp, hb, F⟩ := F.ex
  refine PE.imp (pe_callG (F.mono hk) cx.gd cx.rm hg hm hkp hb .nil (passAt cx.tk) ha hdb he hpl) fun σ H Q ⟨ρ, G, fr, q⟩ => ⟨ρ, G, fr, ?_⟩
  unfold eCallO at q
  cases e1 : fa ρ with
  | bad => rw [e1] at q; exact q
  | ex c p ρ' => rw [e1] at q; exact q
  | ok ds ρ1 =>
    rw [e1] at q
    intro vs H1 G1 Fa f1 r1 a n1
    rw [List.append_nil]
    obtain ⟨fc, hl, ho⟩ := a.fr
    have off : ∀ {S' : Addr → Prop} {H2 : Hp}, Rel H1 (Own (pK ks vs) (gO ks Fa)) H2 S' → FR X.K κ ρ1 σ H2 G1 ∧ Rel H (Own κ G) H2 (Own κ G1) := fun {S' H2} r2 => by
      have kp : Kp H1 H2 := fc.kp r2
      have h : ∀ b u, H1 b = some u → Own κ G1 b → H2 b = some u := fun b u hb hO => r2.keep b u hb fun z => (n1 b (ho b z)).2 hO
      refine ⟨f1.off kp h, ⟨fun b u hb nb => r2.keep b u (r1.keep b u hb nb) fun z => ?_, fun b z => r1.new b z, fun b z => r1.non b (r2.non b z)⟩⟩
      rcases (n1 b (ho b z)).1 with y | y
      · exact nb y
      · rw [hb] at y; cases y
    refine ⟨hl, ds, gO ks Fa, fc, ?_⟩
    dsimp only at q
    cases e2 : D ds with
    | bad => rw [e2] at q; exact q
    | ok r es' =>
      rw [e2] at q
      intro v H2 G2 F2 f2 r2 ok n2
      obtain ⟨fb, rb⟩ := off r2
      exact q v H2 G1 F2 fb rb (fun z => nomatch z) ok (fun b hb => by rw [ok.2] at hb; cases hb)
    | ex c p es' =>
      rw [e2] at q
      intro cls dd H2 G2 x f2 r2
      obtain ⟨fb, rb⟩ := off r2
      exact q cls dd H2 G1 x fb rb
end
/-! ### len(set(xs)) -/
section
variable {X : Cx}
theorem srtU_len {es : List Int} {ns : List Int} (nd : es.Nodup) (h : ∀ k, k ∈ es ↔ k ∈ ns) : es.length = (srtU ns).length := by
  have e : srtI es = srtU ns := lt_unique _ _ (srtI_lt nd) (srtU_lt ns) fun k => by rw [(srtI_perm es).mem_iff, h, mem_srtU]
  rw [← (srtI_perm es).length_eq, e]
def rSetLn (K : PySem.W.Frag) (w : World) : List V → Hp → VK → Prop := fun xs H Q => ∃ (l : Addr) (ns : List Int), xs = [.ref l] ∧ SqL K H l (ns.map V.int) ∧ ns.length ≤ 4000 ∧
  ∀ p, H p = none → Q (.ref p) (upd H p (SetO w p (fun j => decide (j ∈ ns)) (srtU ns).length))
theorem cr_setLn (hc : X.calm = true) : CallR X (.type "set") (rSetLn X.K X.w) := by
  intro pins s σ H xs us Q I r h
  obtain ⟨l, ns, rfl, hq, hz, q⟩ := h
  obtain ⟨u, rfl, ru⟩ := vals1 r
  obtain rfl : u = Value.ref l := ru
  obtain ⟨its, rv, pl, hzz⟩ := I.list hq
  refine set_of_list ns (I.ok.hd hc) pl.isList (by simpa using ints_of_vals rv) (by unfold scanBound; omega) fun h' tk c R1 hcn k => ?_
  have ec : c = (srtU ns).length := by
    obtain ⟨o, es, ep, t, _, _, _, _, nd, hk, _, _, hz, _⟩ := R1
    rw [← hz, ← srtU_len nd fun k => ?_, List.length_map, Array.length_toList]
    rw [← hk, decide_eq_true_eq]
  subst ec
  exact ⟨.ref _, upd H s.heap.objs.size (SetO X.w s.heap.objs.size (fun j => decide (j ∈ ns)) _), I.laid (t' := tk) k (Nat.le_refl _) (setO_new R1), rfl, q _ (I.hok.fresh (Nat.le_refl _))⟩
theorem call_lenO : CallR X (.builtin "len") (fun xs H Q => ∃ (a : Addr) (S : Int → Bool) (n : Nat), xs = [.ref a] ∧ H a = some (SetO X.w a S n) ∧ n < 5000 ∧ Q (.int n) H) := by
  intro pins s σ H xs us Q I r h
  obtain ⟨a, S, n, rfl, ha, hn, q⟩ := h
  obtain ⟨u, rfl, ru⟩ := vals1 r
  obtain rfl : u = Value.ref a := ru
  obtain ⟨R, _⟩ := I.hok a _ ha
  obtain ⟨o, es, ep, t, ho, hex, hd, _, _, _, _, hf, hz, _⟩ := R
  exact call_len_set ho hex hd hf (by rw [hz]; omega) ⟨.int n, H, I.tok _, ⟨_, by rw [hz]⟩, q⟩
end
def dLenU : PyData → Option PyData
  | .list ds => match allI ds with
    | some ns => if ns.length < 4000 then some (.int ((srtU ns).length : Nat)) else none
    | none => none
  | _ => none
theorem insU_len (x : Int) : ∀ l : List Int, (insU x l).length ≤ l.length + 1
  | [] => Nat.le_refl _
  | y :: r => by
    unfold insU
    have := insU_len x r
    split
    · simp
    · split
      · simp
      · simp only [List.length_cons]; omega
theorem srtU_le : ∀ l : List Int, (srtU l).length ≤ l.length
  | [] => Nat.le_refl _
  | x :: r => by
    have a := insU_len x (srtU r)
    have b := srtU_le r
    show (insU x (srtU r)).length ≤ r.length + 1
    omega
section
variable {X : Cx} {κ : List SK} {W : WX} {pu : Bool} {k : RK} {e : Expr} {f : M PyData} {p p2 q pos : Pos}
theorem qe_lenU (hc : X.calm = true) (hg : Gl X "len") (hm : X.mg "len" = none) (hg2 : Gl X "set") (hm2 : X.mg "set" = none) (h : QE X κ W pu k e f) (hl : k.looks X.K := by trivial)
    (n1 : starEach [e] X.env = (false, eval e X.env) :: starEach [] X.env := by rfl)
    (n2 : starEach [.Call (.Name "set" p2) [e] [] q] X.env = (false, eval (.Call (.Name "set" p2) [e] [] q) X.env) :: starEach [] X.env := by rfl) :
    QE X κ W pu .sh (.Call (.Name "len" p) [.Call (.Name "set" p2) [e] [] q] [] pos) (eUn dLenU f) := by
  refine PE.imp (pe_callB call_lenO hg hm boot_len (pa_cons (pe_callTy (cr_setLn hc) hg2 hm2 boot_set (pa_cons h pa_nil n1) (he := n1)) pa_nil n2) (he := n2)) fun σ H Q ⟨ρ, G, fr, z⟩ => ⟨ρ, G, fr, ?_⟩
  unfold eUn at z
  cases e1 : f ρ with
  | bad => rw [e1] at z; exact z
  | ex c p ρ' => rw [e1] at z; exact z
  | ok d ρ1 =>
    rw [e1] at z
    intro v H1 G1 F1 f1 r1 s1 ok1 n1
    dsimp only at z
    unfold dLenU at z
    split at z
    · rename_i r e2
      split at e2
      · rename_i ds
        split at e2
        · rename_i ns e3
          split at e2
          · rename_i hlen
            cases e2
            obtain rfl := allI_map e3
            obtain ⟨a, xs, rfl, hq, hr⟩ := (ok1.pk hl).list
            obtain rfl := RpAll.ints_inv ns hr
            refine ⟨a, ns, rfl, hq, by omega, fun p hp => ?_⟩
            have le := srtU_le ns
            have sm : Same H1 (upd H1 p (SetO X.w p (fun j => decide (j ∈ ns)) (srtU ns).length)) := same_upd0 hp
            exact ⟨p, _, _, rfl, upd_same, by omega, z (.int _) _ G1 [] (f1.same sm) (r1.trans (.of_same sm)) (fun hpu => (s1 hpu).trans sm) ⟨.int _, rfl⟩ fun _ y => nomatch y⟩
          · cases e2
        · cases e2
      · cases e2
    · exact z.elim
end
end G

/-! G34: list comprehensions with two fors. -/
namespace G
open PySem PySem.Spec PyProof.Rows
open L2 hiding St Inv Binds
def lc2Go (g : TD) (ft : M Bool) (fi1 : MI) (g1 : TD) (ft1 : M Bool) (fe : M PyData) : List PyData → Ev → Option (List PyData × Ev)
  | [], ρ => some ([], ρ)
  | d :: ds, ρ => match g d ρ with
    | some ρ1 => (match ft ρ1 with
      | .ok b ρ2 => if b = true then (match fi1 ρ2 with
          | .ok es ρ3 => (match lcGo g1 ft1 fe es ρ3 with
            | some (ys, ρ4) => (match lc2Go g ft fi1 g1 ft1 fe ds ρ4 with
              | some (zs, ρ5) => some (ys ++ zs, ρ5)
              | none => none)
            | none => none)
          | _ => none) else lc2Go g ft fi1 g1 ft1 fe ds ρ2
      | _ => none)
    | none => none
def eLc2 (vs : List Nat) (fi : MI) (g : TD) (ft : M Bool) (fi1 : MI) (g1 : TD) (ft1 : M Bool) (fe : M PyData) : M PyData := fun ρ => match fi ρ with
  | .ok ds ρ1 => (match lc2Go g ft fi1 g1 ft1 fe ds ρ1 with
    | some (out, ρ2) => if out.length ≤ sizeLine then .ok (.list out) (rst ρ1 vs ρ2) else .bad
    | none => .bad)
  | .ex c p ρ' => .ex c p ρ'
  | .bad => .bad
theorem wipe_wipe {σ : St} {vs vs1 : List Nat} (h : ∀ i ∈ vs1, i ∈ vs) : wipe (wipe σ vs1) vs = wipe σ vs := by
  refine List.ext_getElem? fun j => ?_
  by_cases hj : j ∈ vs
  · rw [wipe_in hj, wipe_in hj, wipe_length]
  · rw [wipe_out hj, wipe_out hj, wipe_out fun z => hj (h j z)]
section
variable {K : PySem.W.Frag} {mg : Str → Option Value} {κ κ1 κ2 : List SK} {W : WX} {pi pt pi1 pt1 pe : Bool} {vs vs1 : List Nat} {fi fi1 : MI} {g g1 : TD} {ft ft1 : M Bool} {fe : M PyData}
theorem lc2_ok (hK : NoOw κ vs) (hw : wipeK κ1 vs = wipeK κ vs) (hw1 : wipeK κ2 vs1 = wipeK κ1 vs1) (hw2 : wipeK (wipeK κ1 vs1) vs = wipeK κ vs) (hv : ∀ i ∈ vs1, i ∈ vs) {σ : St} {H : Hp} {Q : VK} (h : tE K mg κ W false (.ow (oLst K)) (eLc2 vs fi g ft fi1 g1 ft1 fe) σ H Q) :
    tLc2 (tI K mg κ W pi fi) (tGd K vs (wipeK κ vs) κ1 g) (tT K mg κ1 WF pt ft) (tI K mg κ1 WF pi1 fi1) (tGd K vs1 (wipeK κ1 vs1) κ2 g1) (tT K mg κ2 WF pt1 ft1) (tE K mg κ2 WF pe .sh fe) vs vs1 σ H Q := by
  obtain ⟨ρ0, G0, f0, h⟩ := h
  refine ⟨ρ0, G0, f0, ?_⟩
  unfold eLc2 at h
  cases e0 : fi ρ0 with
  | bad => rw [e0] at h; exact h
  | ex c p ρ' => rw [e0] at h; exact h
  | ok ds ρ1 =>
    rw [e0] at h
    dsimp only at h
    intro It H1 G1 f1 r1 s1 w1 D hD
    let Fin : Option (List PyData × Ev) → Prop := fun o => match o with
      | some (out, ρ2) => AftE K mg κ W false (.ow (oLst K)) σ H G0 Q (if out.length ≤ sizeLine then .ok (.list out) (rst ρ1 vs ρ2) else .bad)
      | none => False
    have hF : Fin (lc2Go g ft fi1 g1 ft1 fe ds ρ1) := by
      cases e1 : lc2Go g ft fi1 g1 ft1 fe ds ρ1 with
      | none => rw [e1] at h; exact h
      | some p => obtain ⟨out, ρ2⟩ := p; rw [e1] at h; exact h
    have nD : ∀ {G : Nat → List Addr}, ¬ Own κ G1 D := fun {G} z => by
      obtain ⟨u, e, _⟩ := f1.live z
      rw [hD] at e; cases e
    have sm1 : Same H1 (upd H1 D (.lst [])) := same_upd0 hD
    refine ⟨fun i m H' => ∃ ρ G acc out, FR K (wipeK κ vs) ρ (wipe σ vs) H' G ∧ Rel H1 (Own κ G1) H' (Own (wipeK κ vs) G) ∧ Kp H1 H' ∧ H' D = some (.lst acc) ∧ RpAll K H' acc out ∧ ¬ Own (wipeK κ vs) G D ∧ i ≤ ds.length ∧ m = ds.length - i ∧
      Fin ((lc2Go g ft fi1 g1 ft1 fe (ds.drop i) ρ).map fun p => (out ++ p.1, p.2)), ⟨_, ρ1, G1, [], [], (f1.same sm1).wiped vs, (Rel.of_same sm1).sub fun b z => z.unwipe, .of_same sm1, upd_same, .nil, fun z => nD (G := G1) z.unwipe, Nat.zero_le _, rfl, ?_⟩, ?_⟩
    · rw [List.drop_zero]
      cases e1 : lc2Go g ft fi1 g1 ft1 fe ds ρ1 with
      | none => rw [e1] at hF; exact hF
      | some p => rw [e1] at hF; exact hF
    rintro i m H2 ⟨ρ, G, acc, out, fr, rr, kp, hDa, ra, nO, hi, rfl, h⟩
    by_cases hl : ds.length ≤ i
    · refine .inl ⟨w1.stop H2 i kp hl, ?_⟩
      have e : i = ds.length := by omega
      rw [e, List.drop_length] at h
      have h : AftE K mg κ W false (.ow (oLst K)) σ H G0 Q (if (out ++ []).length ≤ sizeLine then .ok (.list (out ++ [])) (rst ρ1 vs ρ) else .bad) := h
      rw [List.append_nil] at h
      by_cases hs : out.length ≤ sizeLine
      · rw [if_pos hs] at h
        refine h (.ref D) H2 G [D] (f1.unwiped hK kp fr) (r1.trans (rr.sub fun b z => z.wiped hK)) (fun hp => nomatch hp) ⟨D, acc, out, rfl, rfl, rfl, hDa, ra⟩ fun b hb => ?_
        rw [List.mem_singleton] at hb
        subst hb
        exact ⟨.inr (r1.non _ hD), fun z => nO (z.wiped hK)⟩
      · rw [if_neg hs] at h; exact h.elim
    · have hl : i < ds.length := Nat.lt_of_not_le hl
      obtain ⟨d, hd⟩ : ∃ d, ds[i]? = some d := ⟨ds[i], by simp [hl]⟩
      have ed : ds.drop i = d :: ds.drop (i + 1) := by
        rw [List.drop_eq_getElem_cons hl]
        have := (List.getElem?_eq_some_iff.mp hd).2
        rw [this]
      rw [ed] at h
      unfold lc2Go at h
      refine .inr ⟨w1.go H2 i d kp hd, fun H' => ∃ ρ G acc out, FR K (wipeK κ vs) ρ (wipe σ vs) H' G ∧ Rel H1 (Own κ G1) H' (Own (wipeK κ vs) G) ∧ Kp H1 H' ∧ H' D = some (.lst acc) ∧ RpAll K H' acc out ∧ ¬ Own (wipeK κ vs) G D ∧
        Fin ((lc2Go g ft fi1 g1 ft1 fe (ds.drop (i + 1)) ρ).map fun p => (out ++ p.1, p.2)), fun H' ⟨ρ', G', acc', out', a1, a2, a4, a5, a6, a7, a8⟩ => ⟨ds.length - (i + 1), by omega, ρ', G', acc', out', a1, a2, a4, a5, a6, a7, hl, rfl, a8⟩, fun x H3 y => ?_⟩
      obtain ⟨sm3, rp⟩ := w1.yld H2 i d x H3 kp hd y
      refine ⟨ρ, G, d, fr.same sm3, rp, ?_⟩
      cases eg : g d ρ with
      | none => rw [eg] at h; exact h.elim
      | some ρ2 =>
        rw [eg] at h
        dsimp only at h
        intro σ4 G4 f4 o4 u4
        have hlen : σ4.length = σ.length := by
          have q1 := f4.l1
          have q2 := congrArg List.length hw
          rw [wipeK_len, wipeK_len] at q2
          rw [← q1, q2]
          exact f1.l1
        have hws : wipe σ4 vs = wipe σ vs := wipe_same hlen u4
        refine ⟨hws, ρ2, G4, f4, ?_⟩
        have r4 : Rel H1 (Own κ G1) H3 (Own κ1 G4) := (rr.trans (.of_same sm3)).sub o4
        have nO4 : ¬ Own κ1 G4 D := fun z => nO (o4 _ z)
        have hD3 : H3 D = some (.lst acc) := sm3 _ _ hDa
        cases et : ft ρ2 with
        | bad => rw [et] at h; exact h.elim
        | ex c p ρ' => rw [et] at h; exact h.elim
        | ok b ρ5 =>
          rw [et] at h
          dsimp only at h
          intro H5 G5 f5 r5 s5
          have r15 := r4.trans r5
          have hD5 : H5 D = some (.lst acc) := r5.keep _ _ hD3 nO4
          have nO5 : ¬ Own κ1 G5 D := fun z => (r5.new _ z).elim nO4 fun q => by rw [hD3] at q; cases q
          have kp5 : Kp H1 H5 := (kp.trans (.of_same sm3)).trans (f4.kp r5)
          have ra5 : RpAll K H5 acc out := RpAll.kp ((Kp.of_same sm3).trans (f4.kp r5)) _ _ ra
          cases b with
          | false =>
            rw [if_neg Bool.false_ne_true] at h ⊢
            refine ⟨ρ5, G5, acc, out, ?_, r15.sub fun b z => ?_, kp5, hD5, ra5, fun z => ?_, h⟩
            · rw [← hw, ← hws]; exact f5.wiped vs
            · rw [← hw] at z; exact z.unwipe
            · rw [← hw] at z; exact nO5 z.unwipe
          | true =>
            rw [if_pos rfl] at h ⊢
            refine ⟨ρ5, G5, f5, ?_⟩
            cases ei : fi1 ρ5 with
            | bad => rw [ei] at h; exact h.elim
            | ex c p ρ' => rw [ei] at h; exact h.elim
            | ok es ρ6 =>
              rw [ei] at h
              dsimp only at h
              intro It1 H6 G6 f6 r6 s6 w6
              have r16 := r15.trans r6
              have hD6 : H6 D = some (.lst acc) := r6.keep _ _ hD5 nO5
              have nO6 : ¬ Own κ1 G6 D := fun z => (r6.new _ z).elim nO5 fun q => by rw [hD5] at q; cases q
              have kp6 : Kp H1 H6 := kp5.trans (f5.kp r6)
              have ra6 : RpAll K H6 acc out := RpAll.kp (f5.kp r6) _ _ ra5
              refine ⟨fun j k H' => ∃ ρ G acc out, FR K (wipeK κ1 vs1) ρ (wipe σ4 vs1) H' G ∧ Rel H1 (Own κ G1) H' (Own (wipeK κ1 vs1) G) ∧ Kp H6 H' ∧ H' D = some (.lst acc) ∧ RpAll K H' acc out ∧ ¬ Own (wipeK κ1 vs1) G D ∧ j ≤ es.length ∧ k = es.length - j ∧
                Fin ((lcGo g1 ft1 fe (es.drop j) ρ).bind fun p => (lc2Go g ft fi1 g1 ft1 fe (ds.drop (i + 1)) p.2).map fun q => (out ++ (p.1 ++ q.1), q.2)), ⟨_, ρ6, G6, acc, out, f6.wiped vs1, r16.sub fun b z => z.unwipe, .refl _, hD6, ra6, fun z => nO6 z.unwipe, Nat.zero_le _, rfl, ?_⟩, ?_⟩
              · rw [List.drop_zero]
                cases e1 : lcGo g1 ft1 fe es ρ6 with
                | none => rw [e1] at h; exact h
                | some p =>
                  obtain ⟨ys, ρ7⟩ := p
                  rw [e1] at h
                  dsimp only at h
                  show Fin ((lc2Go g ft fi1 g1 ft1 fe (ds.drop (i + 1)) ρ7).map fun q => (out ++ (ys ++ q.1), q.2))
                  cases e2 : lc2Go g ft fi1 g1 ft1 fe (ds.drop (i + 1)) ρ7 with
                  | none => rw [e2] at h; exact h
                  | some q => obtain ⟨zs, ρ8⟩ := q; rw [e2] at h; exact h
              rintro j k H7 ⟨ρ', G', acc', out', fr', rr', kp', hDa', ra', nO', hj, rfl, h'⟩
              by_cases hl' : es.length ≤ j
              · refine .inl ⟨w6.stop H7 j kp' hl', ?_⟩
                have e : j = es.length := by omega
                rw [e, List.drop_length] at h'
                have h' : Fin ((lc2Go g ft fi1 g1 ft1 fe (ds.drop (i + 1)) ρ').map fun q => (out' ++ ([] ++ q.1), q.2)) := h'
                refine ⟨ρ', G', acc', out', ?_, rr'.sub fun b z => ?_, kp6.trans kp', hDa', ra', fun z => ?_, h'⟩
                · rw [← hw2, ← hws, ← wipe_wipe hv]; exact fr'.wiped vs
                · rw [← hw2] at z; exact z.unwipe
                · rw [← hw2] at z; exact nO' z.unwipe
              · have hl' : j < es.length := Nat.lt_of_not_le hl'
                obtain ⟨d', hd'⟩ : ∃ d', es[j]? = some d' := ⟨es[j], by simp [hl']⟩
                have ed' : es.drop j = d' :: es.drop (j + 1) := by
                  rw [List.drop_eq_getElem_cons hl']
                  have := (List.getElem?_eq_some_iff.mp hd').2
                  rw [this]
                rw [ed'] at h'
                unfold lcGo at h'
                refine .inr ⟨w6.go H7 j d' kp' hd', fun H' => ∃ ρ G acc out, FR K (wipeK κ1 vs1) ρ (wipe σ4 vs1) H' G ∧ Rel H1 (Own κ G1) H' (Own (wipeK κ1 vs1) G) ∧ Kp H6 H' ∧ H' D = some (.lst acc) ∧ RpAll K H' acc out ∧ ¬ Own (wipeK κ1 vs1) G D ∧
                  Fin ((lcGo g1 ft1 fe (es.drop (j + 1)) ρ).bind fun p => (lc2Go g ft fi1 g1 ft1 fe (ds.drop (i + 1)) p.2).map fun q => (out ++ (p.1 ++ q.1), q.2)), fun H' ⟨ρ', G', acc', out', a1, a2, a4, a5, a6, a7, a8⟩ => ⟨es.length - (j + 1), by omega, ρ', G', acc', out', a1, a2, a4, a5, a6, a7, hl', rfl, a8⟩, fun x H8 y => ?_⟩
                obtain ⟨sm8, rp8⟩ := w6.yld H7 j d' x H8 kp' hd' y
                refine ⟨ρ', G', d', fr'.same sm8, rp8, ?_⟩
                cases eg1 : g1 d' ρ' with
                | none => rw [eg1] at h'; exact h'.elim
                | some ρ9 =>
                  rw [eg1] at h'
                  dsimp only at h'
                  intro σ9 G9 f9 o9 u9
                  have hlen1 : σ9.length = σ4.length := by
                    have q1 := f9.l1
                    have q2 := congrArg List.length hw1
                    rw [wipeK_len, wipeK_len] at q2
                    rw [← q1, q2]
                    exact f5.l1
                  have hws1 : wipe σ9 vs1 = wipe σ4 vs1 := wipe_same hlen1 u9
                  refine ⟨hws1, ρ9, G9, f9, ?_⟩
                  have r9 : Rel H1 (Own κ G1) H8 (Own κ2 G9) := (rr'.trans (.of_same sm8)).sub o9
                  have nO9 : ¬ Own κ2 G9 D := fun z => nO' (o9 _ z)
                  have hD8 : H8 D = some (.lst acc') := sm8 _ _ hDa'
                  cases et1 : ft1 ρ9 with
                  | bad => rw [et1] at h'; exact h'.elim
                  | ex c p ρ' => rw [et1] at h'; exact h'.elim
                  | ok b ρa =>
                    rw [et1] at h'
                    dsimp only at h'
                    intro Ha Ga fa ra2 sa
                    have r1a := r9.trans ra2
                    have hDa2 : Ha D = some (.lst acc') := ra2.keep _ _ hD8 nO9
                    have nOa : ¬ Own κ2 Ga D := fun z => (ra2.new _ z).elim nO9 fun q => by rw [hD8] at q; cases q
                    have kpa : Kp H6 Ha := (kp'.trans (.of_same sm8)).trans (f9.kp ra2)
                    have raa : RpAll K Ha acc' out' := RpAll.kp ((Kp.of_same sm8).trans (f9.kp ra2)) _ _ ra'
                    cases b with
                    | false =>
                      rw [if_neg Bool.false_ne_true] at h' ⊢
                      refine ⟨ρa, Ga, acc', out', ?_, r1a.sub fun b z => ?_, kpa, hDa2, raa, fun z => ?_, h'⟩
                      · rw [← hw1, ← hws1]; exact fa.wiped vs1
                      · rw [← hw1] at z; exact z.unwipe
                      · rw [← hw1] at z; exact nOa z.unwipe
                    | true =>
                      rw [if_pos rfl] at h' ⊢
                      refine ⟨ρa, Ga, fa, ?_⟩
                      cases ee : fe ρa with
                      | bad => rw [ee] at h'; exact h'.elim
                      | ex c p ρ' => rw [ee] at h'; exact h'.elim
                      | ok dy ρb =>
                        rw [ee] at h'
                        dsimp only at h'
                        intro y Hb Gb Fb fb rb sb okb nb
                        have r1b := r1a.trans rb
                        have hDb : Hb D = some (.lst acc') := rb.keep _ _ hDa2 nOa
                        have nOb : ¬ Own κ2 Gb D := fun z => (rb.new _ z).elim nOa fun q => by rw [hDa2] at q; cases q
                        have kpb : Kp H6 Hb := kpa.trans (fa.kp rb)
                        have rab : RpAll K Hb acc' out' := RpAll.kp (fa.kp rb) _ _ raa
                        have kpu : Kp Hb (upd Hb D (.lst (acc' ++ [y]))) := kp_upd hDb rfl
                        cases el : lcGo g1 ft1 fe (es.drop (j + 1)) ρb with
                        | none => rw [el] at h'; exact h'.elim
                        | some p =>
                          obtain ⟨ys, ρc⟩ := p
                          rw [el] at h'
                          have h' : Fin ((lc2Go g ft fi1 g1 ft1 fe (ds.drop (i + 1)) ρc).map fun q => (out' ++ ((dy :: ys) ++ q.1), q.2)) := h'
                          cases el2 : lc2Go g ft fi1 g1 ft1 fe (ds.drop (i + 1)) ρc with
                          | none => rw [el2] at h'; exact h'.elim
                          | some q =>
                            obtain ⟨zs, ρd⟩ := q
                            rw [el2] at h'
                            have h' : AftE K mg κ W false (.ow (oLst K)) σ H G0 Q (if (out' ++ ((dy :: ys) ++ zs)).length ≤ sizeLine then .ok (.list (out' ++ ((dy :: ys) ++ zs))) (rst ρ1 vs ρd) else .bad) := h'
                            have hb : (out' ++ ((dy :: ys) ++ zs)).length ≤ sizeLine := by
                              by_cases hq : (out' ++ ((dy :: ys) ++ zs)).length ≤ sizeLine
                              · exact hq
                              · rw [if_neg hq] at h'; exact h'.elim
                            rw [List.length_append, List.length_append, List.length_cons] at hb
                            refine ⟨acc', hDb, by rw [rab.len]; omega, ρb, Gb, acc' ++ [y], out' ++ [dy], ?_, ⟨fun b u hb nb => ?_, fun b z => ?_, fun b z => r1b.non b (upd_none z)⟩, kpb.trans kpu, upd_same, (RpAll.kp kpu _ _ rab).append (.cons (Rp.kp kpu _ _ okb.1) .nil), fun z => ?_, ?_⟩
                            · rw [← hw1, ← hws1]; exact (fb.updF nOb kpu).wiped vs1
                            · rw [upd_ne]
                              · exact r1b.keep b u hb nb
                              · intro z; rw [z, hD] at hb; cases hb
                            · rw [← hw1] at z; exact r1b.new b z.unwipe
                            · rw [← hw1] at z; exact nOb z.unwipe
                            · rw [el]
                              show Fin ((lc2Go g ft fi1 g1 ft1 fe (ds.drop (i + 1)) ρc).map fun q => ((out' ++ [dy]) ++ (ys ++ q.1), q.2))
                              rw [el2]
                              show AftE K mg κ W false (.ow (oLst K)) σ H G0 Q (if ((out' ++ [dy]) ++ (ys ++ zs)).length ≤ sizeLine then .ok (.list ((out' ++ [dy]) ++ (ys ++ zs))) (rst ρ1 vs ρd) else .bad)
                              have ez : (out' ++ [dy]) ++ (ys ++ zs) = out' ++ ((dy :: ys) ++ zs) := by simp
                              rw [ez]
                              exact h'
end
section
variable {X : Cx} {κ κ1 κ2 : List SK} {W : WX} {pi pt pi1 pt1 pe : Bool} {elt tg iter tg1 iter1 : Expr} {ifs ifs1 : List Expr} {scope : Scope} {own : List (Str × Nat)} {vs1 : List Nat} {pos : Pos} {fi fi1 : MI} {g g1 : TD} {ft ft1 : M Bool} {fe : M PyData}
theorem qe_lc2 (hc : X.calm = true) (hN : X.N.Nodup) (hi : QI X κ W pi tg iter fi) (ok : BlkOk X.N X.env.scope scope own) (hv : ∀ i ∈ vs1, i ∈ own.map (·.2)) (hK : NoOw κ (own.map (·.2))) (hw : wipeK κ1 (own.map (·.2)) = wipeK κ (own.map (·.2)))
    (hw1 : wipeK κ2 vs1 = wipeK κ1 vs1) (hw2 : wipeK (wipeK κ1 vs1) (own.map (·.2)) = wipeK κ (own.map (·.2)))
    (hg : ∀ (s : Shared) (H : Hp) (C : Addr) (cl : List (Str × Addr)) (fp : List Addr), QG (X.blk s H scope (compEnvC scope cl C X.env) fp) (own.map (·.2)) (wipeK κ (own.map (·.2))) κ1 tg g)
    (ht : ∀ (s : Shared) (H : Hp) (C : Addr) (cl : List (Str × Addr)) (fp : List Addr), QTs (X.blk s H scope (compEnvC scope cl C X.env) fp) κ1 WF pt ifs ft)
    (hi1 : ∀ (s : Shared) (H : Hp) (C : Addr) (cl : List (Str × Addr)) (fp : List Addr), QI (X.blk s H scope (compEnvC scope cl C X.env) fp) κ1 WF pi1 tg1 iter1 fi1)
    (hg1 : ∀ (s : Shared) (H : Hp) (C : Addr) (cl : List (Str × Addr)) (fp : List Addr), QG (X.blk s H scope (compEnvC scope cl C X.env) fp) vs1 (wipeK κ1 vs1) κ2 tg1 g1)
    (ht1 : ∀ (s : Shared) (H : Hp) (C : Addr) (cl : List (Str × Addr)) (fp : List Addr), QTs (X.blk s H scope (compEnvC scope cl C X.env) fp) κ2 WF pt1 ifs1 ft1)
    (he : ∀ (s : Shared) (H : Hp) (C : Addr) (cl : List (Str × Addr)) (fp : List Addr), QE (X.blk s H scope (compEnvC scope cl C X.env) fp) κ2 WF pe .sh elt fe) (hs : ∀ x, foldedSetIterable iter X.env x = pure x := by intro _; rfl) (hs1 : ∀ env x, foldedSetIterable iter1 env x = pure x := by intro _ _; rfl) :
    QE X κ W false (.ow (oLst X.K)) (.ListComp elt [⟨tg, iter, ifs, 0⟩, ⟨tg1, iter1, ifs1, 0⟩] scope pos) (eLc2 (own.map (·.2)) fi g ft fi1 g1 ft1 fe) :=
  PE.imp (pe_lc2 hc hN hi ok hv hg ht hi1 hg1 ht1 he hs hs1) fun _ _ _ h => lc2_ok hK hw hw1 hw2 hv h
end
end G

/-! G35: a pair of a value and an own dict keyed by tuples; list(d) of such a dict. -/
namespace G
open PySem PySem.Spec PyProof.Rows
open L2 hiding St Inv Binds
/-! ### list(d) -/
theorem RpN.keys {K : PySem.W.Frag} {H : Hp} {xs : List Ent} {ds : List (PyData × PyData)} (h : RpN K H xs ds) : RpAll K H (xs.map fun x => V.ref x.2.1) (ds.map (·.1)) := by
  induction h with
  | nil => exact .nil
  | cons a b c d e f ih => exact .cons c ih
section
variable {X : Cx}
theorem call_listN (hc : X.calm = true) : CallR X (.type "list") (fun xs H Q => ∃ d es ds, xs = [V.ref d] ∧ H d = some (.ext (RawN X.prog X.w d es)) ∧ RpN X.K H es ds ∧ ds.length ≤ sizeLine ∧ ∀ p, H p = none → Q (.ref p) (upd H p (.lst (es.map fun x => V.ref x.2.1)))) := by
  intro pins s σ H xs us Q I r h
  obtain ⟨d, ks, ds, rfl, hd, rn, hsz, q⟩ := h
  obtain ⟨u, rfl, rx⟩ := r.one
  cases rx
  obtain ⟨⟨hs, o, es, ep, ho, hx, hdt, he, hn⟩, _, _⟩ := I.hok d _ hd
  have l1 : es.size = ks.length := by
    have := congrArg List.length he
    rw [List.length_map, Array.length_toList] at this
    exact this
  have l2 := rn.len
  refine PySem.W.kdl_call (kdl_raw hs hx hdt) (I.ok.hd hc) ho (by omega) fun h' tk acc' c' kp e it => ?_
  have ea : acc'.toList = ks.map fun x => Value.ref x.2.1 := by
    have hl : acc'.toList.length = ks.length := by rw [Array.length_toList, it.1]; exact l1
    apply List.ext_getElem?
    intro j
    rw [List.getElem?_map]
    cases hj : acc'.toList[j]? with
    | none =>
      have h1 := List.getElem?_eq_none_iff.mp hj
      rw [List.getElem?_eq_none (by omega)]
      all_goals rfl
    | some v =>
      obtain ⟨en, hen, hv⟩ := it.2 j v (by rw [← Array.getElem?_toList]; exact hj)
      have qe := congrArg (fun l => l[j]?) he
      rw [List.getElem?_map, Array.getElem?_toList, hen] at qe
      cases hb : ks[j]? with
      | none =>
        rw [hb] at qe
        exact nomatch (show some en = none from qe)
      | some b =>
        rw [hb] at qe
        have e2 : en = entryOfKey (nestedKind X.prog X.w) b := Option.some.inj qe
        rw [hv, e2]
        all_goals rfl
  have eb : acc'.toList = (ks.map fun x => x.2.1).map Value.ref := by rw [ea, List.map_map]; all_goals rfl
  have eV : (ks.map fun x => V.ref x.2.1) = (ks.map fun x => x.2.1).map V.ref := by rw [List.map_map]; all_goals rfl
  have rv : Vals (ks.map fun x => V.ref x.2.1) acc'.toList := by rw [eb, eV]; exact vals_refs _
  have hz : (ks.map fun x => V.ref x.2.1).length ≤ sizeLine := by rw [List.length_map]; omega
  refine ⟨.ref s.heap.objs.size, _, I.laid (t' := tk) (o := .lst (ks.map fun x => V.ref x.2.1)) kp (Nat.le_refl _) ?_, rfl, q _ (I.hok.fresh (Nat.le_refl _))⟩
  exact ⟨hz, acc'.toList, c', rv, by rw [Array.toArray_toList]; exact e⟩
def eListN (i : Nat) : M PyData := fun ρ => match ρ[i]? with
  | some (.dict ds) => .ok (.list (ds.map (·.1))) ρ
  | _ => .bad
theorem qe_listN {κ : List SK} {W : WX} {c : V → Prop} {x n : Str} {p p2 pos : Pos} (i : Nat) (hc : X.calm = true) (hg : Gl X x) (hm : X.mg x = none) (hv : bootBuiltins x = some (.type "list")) (hk : κ[i]? = some (.ow c (oDN X.K X.prog X.w))) (hp : PE X (.Name n p2) (tVar i)) (hn : x ≠ "__name__" := by decide) (hdb : (x == ("__debug__" : Str)) = false := by decide)
    (he : starEach [.Name n p2] X.env = (false, eval (.Name n p2) X.env) :: starEach [] X.env := by rfl) (hpl : (backTo pos (starEach [] X.env)).any (·.1) = false := by rfl) : QE X κ W true (.ow (oLst X.K)) (.Call (.Name x p) [.Name n p2] [] pos) (eListN i) := by
  refine PE.imp (pe_callTy (call_listN hc) hg hm hv (pa_cons hp pa_nil he) hn hdb he hpl) fun σ H Q ⟨ρ, G, fr, h⟩ => ?_
  obtain ⟨v, d, e1, e2, _, a, xs, ds, rfl, eG, rfl, h1, h2, h3⟩ := fr.ok i _ hk
  unfold eListN at h
  rw [e2] at h
  refine ⟨.ref a, e1, a, xs, ds, rfl, h1, h2, h3, fun p hp => ?_⟩
  have sm : Same H (upd H p (.lst (xs.map fun x => V.ref x.2.1))) := same_upd0 hp
  refine h (.ref p) _ G [p] (fr.same sm) (.of_same sm) (fun _ => sm) ⟨p, _, _, rfl, rfl, rfl, upd_same, RpAll.kp (.of_same sm) _ _ h2.keys⟩ fun b hb => ?_
  rw [List.mem_singleton] at hb
  subst hb
  refine ⟨.inr hp, fun z => ?_⟩
  obtain ⟨u, e, _⟩ := fr.live z
  rw [hp] at e; cases e
end
/-! ### (e, own dict) -/
def oPr (K : PySem.W.Frag) (P : Program) (w : World) : OP where
  p := fun H v d F => ∃ a b x dx xs ds, v = .ref a ∧ F = [b] ∧ d = .tuple [dx, .dict ds] ∧ SqT K H a [x, .ref b] ∧ Rp K H x dx ∧ H b = some (.ext (RawN P w b xs)) ∧ RpN K H xs ds ∧ ds.length ≤ sizeLine
  frame := by
    rintro H H' v d F ⟨a, b, x, dx, xs, ds, rfl, rfl, rfl, h0, h1, h2, h3, h4⟩ hF k
    exact ⟨a, b, x, dx, xs, ds, rfl, rfl, rfl, SqT.kp k h0, Rp.kp k _ _ h1, (hF b (by simp)).trans h2, h3.kp k, h4⟩
  live := by
    rintro H v d F ⟨a, b, x, dx, xs, ds, rfl, rfl, rfl, h0, h1, h2, h3, h4⟩ b' hb
    rw [List.mem_singleton] at hb
    exact ⟨_, by rw [hb]; exact h2, rfl⟩
def sRetP0 (fv : M PyData) : MS := fun ρ => match fv ρ with
  | .ok d ρ1 => .rt (.tuple [d, .dict []]) ρ1
  | .ex c p ρ' => .ex c p ρ'
  | .bad => .bad
def sRetPV (i : Nat) (fv : M PyData) : MS := fun ρ => match fv ρ with
  | .ok d ρ1 => (match ρ1[i]? with
    | some (.dict ds) => .rt (.tuple [d, .dict ds]) ρ1
    | _ => .bad)
  | .ex c p ρ' => .ex c p ρ'
  | .bad => .bad
def sAsgP (i j : Nat) (fe : M PyData) : MS := fun ρ => match fe ρ with
  | .ok d ρ' => (match d with
    | .tuple [dx, .dict ds] => .nx ((ρ'.set i dx).set j (.dict ds))
    | _ => .bad)
  | .ex c p ρ' => .ex c p ρ'
  | .bad => .bad
def eIxP (fe : M PyData) : M PyData := fun ρ => match fe ρ with
  | .ok d ρ' => (match d with
    | .tuple [dx, .dict _] => .ok dx ρ'
    | _ => .bad)
  | .ex c p ρ' => .ex c p ρ'
  | .bad => .bad
section
variable {X : Cx} {J : Jx} {κ κn : List SK} {W : WX} {pu pv : Bool} {e : Expr} {fe fv : M PyData} {pos : Pos}
theorem qs_retP0 {x1} {pt pd : Pos} (hv : QE X κ J.W pv .sh e fv) (hr : J.rk = .ow (oPr X.K X.prog X.w)) (wr : Wk κ J.κr) (wx : Wk κ J.κx)
    (t1 : starEach [e, .Dict [] [] pd] X.env = (false, eval e X.env) :: starEach [.Dict [] [] pd] X.env := by rfl) (t2 : starEach [.Dict [] [] pd] X.env = (false, eval (.Dict [] [] pd) X.env) :: starEach [] X.env := by rfl) :
    QS X J κ κn (.Return (some (.Tuple [e, .Dict [] [] pd] x1 pt)) pos) (sRetP0 fv) := by
  refine PS.imp (ps_ret (pe_tup (pa_cons hv (pa_cons pe_newN pa_nil t2) t1))) fun D σ H ⟨ρ, G, fr, h⟩ => ⟨ρ, G, fr, ?_⟩
  unfold sRetP0 at h
  cases e1 : fv ρ with
  | bad => rw [e1] at h; exact h
  | ex c p ρ' => rw [e1] at h; exact fun cls dd H' G' x f' r' => h cls dd σ H' G' x (f'.weak wx) (r'.sub fun b z => z.weak wx)
  | ok d ρ1 =>
    rw [e1] at h
    intro v H1 G1 F1 f1 r1 s1 ok1 n1 b hb
    refine ⟨line1000 (n := 2) (by omega), fun p hp => ?_⟩
    have sm : Same H1 (upd H1 b (.ext (RawN X.prog X.w b []))) := same_upd0 hb
    have sm2 := same_upd (o := .tup [v, .ref b]) hp
    have hpb : b ≠ p := fun z => by rw [← z, upd_same] at hp; cases hp
    have rr := r1.trans (Rel.of_same (S := Own κ G1) (sm.trans sm2))
    refine h (.ref p) σ _ G1 [b] (((f1.same sm).same sm2).weak wr) ⟨rr.keep, fun b' z => ?_, rr.non⟩ (by
      rw [hr]
      exact ⟨p, b, v, d, [], [], rfl, rfl, rfl, .of upd_same, Rp.kp (.of_same (sm.trans sm2)) _ _ ok1.1, by rw [upd_ne hpb]; exact upd_same, .nil, Nat.zero_le _⟩) fun b' hb' z => ?_
    · rcases z with z | z
      · have : b' = b := by simpa using z
        exact .inr (this ▸ r1.non _ hb)
      · exact r1.new b' (z.weak wr)
    · have : b' = b := by simpa using hb'
      subst this
      obtain ⟨u, e, _⟩ := f1.live (z.weak wr)
      rw [hb] at e; cases e
theorem qs_retPV {x : Str} {x1} {c : V → Prop} {p pt : Pos} (i : Nat) (hk : κ[i]? = some (.ow c (oDN X.K X.prog X.w))) (hp : PE X (.Name x p) (tVar i)) (hv : QE X κ J.W pv .sh e fv) (hr : J.rk = .ow (oPr X.K X.prog X.w)) (wr : Wk κ J.κr) (hi : J.κr[i]? = some .no) (wx : Wk κ J.κx)
    (t1 : starEach [e, .Name x p] X.env = (false, eval e X.env) :: starEach [.Name x p] X.env := by rfl) (t2 : starEach [.Name x p] X.env = (false, eval (.Name x p) X.env) :: starEach [] X.env := by rfl) :
    QS X J κ κn (.Return (some (.Tuple [e, .Name x p] x1 pt)) pos) (sRetPV i fv) := by
  refine PS.imp (ps_ret (pe_tup (pa_cons hv (pa_cons hp pa_nil t2) t1))) fun D σ H ⟨ρ, G, fr, h⟩ => ⟨ρ, G, fr, ?_⟩
  unfold sRetPV at h
  cases e1 : fv ρ with
  | bad => rw [e1] at h; exact h
  | ex c p ρ' => rw [e1] at h; exact fun cls dd H' G' x f' r' => h cls dd σ H' G' x (f'.weak wx) (r'.sub fun b z => z.weak wx)
  | ok d ρ1 =>
    rw [e1] at h
    intro v H1 G1 F1 f1 r1 s1 ok1 n1
    obtain ⟨v2, d2, q1, q2, _, b, xs, ds, rfl, eG, rfl, g1, g2, g3⟩ := f1.ok i _ hk
    dsimp only at h
    rw [q2] at h
    refine ⟨.ref b, q1, line1000 (n := 2) (by omega), fun p hp => ?_⟩
    have sm2 := same_upd (o := .tup [v, .ref b]) hp
    have hpb : b ≠ p := fun z => by rw [← z, g1] at hp; cases hp
    have rr := r1.trans (Rel.of_same (S := Own κ G1) sm2)
    refine h (.ref p) σ _ G1 [b] ((f1.same sm2).weak wr) ⟨rr.keep, fun b' z => ?_, rr.non⟩ (by
      rw [hr]
      exact ⟨p, b, v, d, xs, ds, rfl, rfl, rfl, .of upd_same, Rp.kp (.of_same sm2) _ _ ok1.1, by rw [upd_ne hpb]; exact g1, g2.kp (.of_same sm2), g3⟩) fun b' hb' z => ?_
    · rcases z with z | z
      · have : b' = b := by simpa using z
        exact r1.new b' ⟨i, _, _, hk, by rw [eG, this]; simp⟩
      · exact r1.new b' (z.weak wr)
    · have : b' = b := by simpa using hb'
      obtain ⟨j, o, o1, ej, hj⟩ := z
      have ej2 : κ[j]? = some (.ow o o1) := (wr.at j _ ej).resolve_left fun z => nomatch z
      have := f1.dj i j _ _ _ _ hk ej2 b' (by rw [eG, this]; simp) hj
      subst this
      rw [hi] at ej; cases ej
theorem qe_ixP {i : Expr} {j0} (he : QE X κ W pu (.ow (oPr X.K X.prog X.w)) e fe) (hi : i = .Constant (.int 0) j0 pos) {pos2 : Pos} (hp : PlainIx i) : QE X κ W false .sh (.Subscript e i pos2) (eIxP fe) := by
  subst hi
  refine PE.imp (pe_ix ix_tup he pe_int hp) fun σ H Q ⟨ρ, G, fr, q⟩ => ⟨ρ, G, fr, ?_⟩
  unfold eIxP at q
  cases e1 : fe ρ with
  | bad => rw [e1] at q; exact q
  | ex c p ρ' => rw [e1] at q; exact q
  | ok d ρ' =>
    rw [e1] at q
    intro v H1 G1 F1 f1 r1 s1 ok1 n1
    obtain ⟨a, b, x, dx, xs, ds, rfl, rfl, rfl, h0, h1, h2, h3, h4⟩ := ok1
    exact ⟨a, _, 0, x, rfl, rfl, h0, rfl, q x H1 G1 [] f1 r1 (fun z => nomatch z) ⟨h1, rfl⟩ fun _ z => nomatch z⟩
theorem qs_asgP {i j : Nat} {x y : Str} {px py pt : Pos} {kt} (hc : X.calm = true) (hN : X.N.Nodup) (hi : X.N[i]? = some x) (hj : X.N[j]? = some y) (hij : i ≠ j) (hx : X.env.scope.names.lookup x = some .local) (hy : X.env.scope.names.lookup y = some .local)
    (he : QE X κ J.W pu (.ow (oPr X.K X.prog X.w)) e fe) (wx : Wk κ J.κx) (hil : i < κ.length := by first | decide | simp) (hjl : j < (κ.set i .sh).length := by first | decide | simp)
    (hs : swapsWithSole [.Tuple [.Name x px, .Name y py] kt pt] e pos.line X.env = pure false := by rfl) (hw : swappedStores [.Tuple [.Name x px, .Name y py] kt pt] e X.env = pure none := by rfl)
    (h1 : (assignEach [.Tuple [.Name x px, .Name y py] kt pt] X.env).map (·.2) = [assign (.Tuple [.Name x px, .Name y py] kt pt) X.env] := by rfl)
    (hn : (assignEach [.Name x px, .Name y py] X.env).length = 2 := by rfl) (hst : (assignEach [.Name x px, .Name y py] X.env).findIdx? (·.1) = none := by rfl)
    (k1 : (assignEach [.Name x px, .Name y py] X.env).map (·.2) = assign (.Name x px) X.env :: (assignEach [.Name y py] X.env).map (·.2) := by rfl) (k2 : (assignEach [.Name y py] X.env).map (·.2) = assign (.Name y py) X.env :: (assignEach [] X.env).map (·.2) := by rfl) :
    QS X J κ ((κ.set i .sh).set j (.ow (fun _ => True) (oDN X.K X.prog X.w))) (.Assign [.Tuple [.Name x px, .Name y py] kt pt] e pos) (sAsgP i j fe) := by
  refine PS.imp (ps_asg he (pg_tup hc (pgs_cons (pg_name hN hi (.inl hx) (.inr hx)) (pgs_cons (pg_name hN hj (.inl hy) (.inr hy)) pgs_nil k2) k1) hn hst) hs hw h1) fun D σ H ⟨ρ, G, fr, h⟩ => ⟨ρ, G, fr, ?_⟩
  unfold sAsgP at h
  cases e1 : fe ρ with
  | bad => rw [e1] at h; exact h
  | ex c p ρ' => rw [e1] at h; exact fun cls dd H' G' x f' r' => h cls dd σ H' G' x (f'.weak wx) (r'.sub fun b z => z.weak wx)
  | ok d ρ' =>
    rw [e1] at h
    intro v H1 G1 F1 f1 r1 s1 ok1 n1
    obtain ⟨a, b, x', dx, xs, ds, rfl, rfl, rfl, h0, hx1, h2, h3, h4⟩ := ok1
    dsimp only at h
    refine ⟨a, _, rfl, h0, rfl, x', _, rfl, .ref b, [], rfl, rfl, ?_⟩
    have g1 := f1.put (i := i) (k := .sh) (v := x') (d := dx) (F := []) hil ⟨x', dx, rfl, rfl, hx1⟩ (fun c o e => nomatch e)
    have g2 := g1.put (i := j) (k := .ow (fun _ => True) (oDN X.K X.prog X.w)) (v := .ref b) (d := .dict ds) (F := [b]) hjl ⟨.ref b, .dict ds, rfl, rfl, trivial, b, xs, ds, rfl, rfl, rfl, h2, h3, h4⟩ (fun c o' _ b hb z => by
      rcases Own.put hil z with ⟨z, _⟩ | z
      · cases z
      · exact (n1 b hb).2 z)
    refine h _ H1 _ g2 ⟨r1.keep, fun b' z => ?_, r1.non⟩
    rcases Own.put hjl z with ⟨z, _⟩ | z
    · exact (n1 b' z).1
    · rcases Own.put hil z with ⟨z, _⟩ | z
      · cases z
      · exact r1.new b' z
end
end G

/-! G39: range(a, b) of any whole numbers. -/
namespace L2
open PySem PySem.Spec PyProof.Rows
theorem turn_long {P : Program} {w : World} {K : PySem.W.Frag} {tg : Expr} (it : Addr) (lo : Int) (n : Nat) : Turn P w K tg (Itr lo n) [it] it (fun i h => IsLongIter h it (lo + (i : Nat) * 1) ((n : Int) - (i : Nat)) 1) where
  mem := by simp
  obj := fun i h st b hb => by
    have e : b = it := by simpa using hb
    subst e
    exact ⟨_, st, fun v z => by
      have z' : Data.fields _ = Data.cell v := z
      cases z'⟩
  keep := fun i h h' st k => k it (by simp) _ st
  item := by
    intro X hP hw hK hc i pins s σ H E I hf st hg
    subst hP hw hK
    obtain ⟨f0, f1, f2, f3, f4, f5⟩ := hf it (by simp)
    have W := Walks.longrange (prog := X.prog) (w := X.w) (I.ok.hd hc) it lo 1 n
    refine W.item i s _ _ hg st fun v h' tk hv st' kk => ?_
    obtain ⟨t, rfl⟩ := hv
    have I1 : Inv X pins σ H { s with heap := h', toks := tk } := I.turned (fun b o hb e => kk b o (by simpa using hb) e) f0 f1 f3 f4 f5
    refine ⟨_, rfl, go_of (s := { s with heap := h', toks := tk }) (n := "longrange_iterator") st' rfl rfl (by decide) ⟨.int (lo + i), H, I1, ⟨t, ?_⟩, ⟨rfl, rfl⟩, st', fun b hb => (hf b hb).1⟩⟩
    rw [Int.mul_one]
  done := by
    intro X hP hw hK hc i pins s σ H E I hf st hg
    subst hP hw hK
    obtain ⟨f0, f1, f2, f3, f4, f5⟩ := hf it (by simp)
    exact wpAny_pyNext_long_end (I.ok.hd hc) st (by have : n ≤ i := hg; omega) fun h' eb => ⟨rfl, I.turned (t' := s.toks) (fun b o hb e => eb b o hb e) f0 f1 f3 f4 f5⟩
  self := fun _ _ _ _ _ st h => wpAny_pyIter_longiter st h
section
variable {X : Cx} {tg : Expr}
theorem range_itA {pins : List (Addr × Obj)} {σ : St} {H : Hp} {s : Shared} {R : It → Hp → Prop} {E : Value → Shared → Prop} {lo hi : Int} {t u v : Tok} {tk : Nat} (I : Inv X pins σ H s)
    (q : R (Itr lo (hi - lo).toNat) H) : wpAny (model X.prog X.w) X.A (pyIter (.ref s.heap.objs.size)) (PIE X pins σ tg R) E { s with heap := s.heap.push { cls := .type "range", data := .fields #[.int lo t, .int hi u, .int 1 v] }, toks := tk } := by
  have I1 : Inv X pins σ H { s with heap := s.heap.push { cls := .type "range", data := .fields #[.int lo t, .int hi u, .int 1 v] }, toks := tk } := I.kept fun b o e => Heap.get?_push_of_some _ e
  have e1 : lo + ((0 : Nat) : Int) * 1 = lo := by simp
  have e2 : (((hi - lo).toNat : Nat) : Int) - ((0 : Nat) : Int) = Builtin.Range.rangeSize lo hi 1 := by rw [rangeSize_one]; split <;> omega
  cases hs : Builtin.Range.small lo hi 1 with
  | true =>
    refine wpAny_pyIter_range (IsRange.new ..) hs ?_
    refine ⟨(s.heap.push { cls := .type "range", data := .fields #[.int lo t, .int hi u, .int 1 v] }).objs.size, [(s.heap.push { cls := .type "range", data := .fields #[.int lo t, .int hi u, .int 1 v] }).objs.size], _, _, H, rfl,
      I1.kept (t' := tk) fun b o e => Heap.get?_push_of_some _ e, turn_range _ lo (hi - lo).toNat, ?_, fun b hb => ?_, q⟩
    · show IsRangeIter _ _ (lo + ((0 : Nat) : Int) * 1) ((((hi - lo).toNat : Nat) : Int) - ((0 : Nat) : Int)) 1
      rw [e1, e2]
      exact Heap.get?_push_size _ rfl
    · have e : b = (s.heap.push { cls := .type "range", data := .fields #[.int lo t, .int hi u, .int 1 v] }).objs.size := by simpa using hb
      subst e
      exact I1.fpOk (Nat.le_refl _) (I1.hok.fresh (Nat.le_refl _))
  | false =>
    refine wpAny_pyIter_longrange (IsRange.new ..) hs ?_
    refine ⟨(s.heap.push { cls := .type "range", data := .fields #[.int lo t, .int hi u, .int 1 v] }).objs.size, [(s.heap.push { cls := .type "range", data := .fields #[.int lo t, .int hi u, .int 1 v] }).objs.size], _, _, H, rfl,
      I1.kept (t' := tk) fun b o e => Heap.get?_push_of_some _ e, turn_long _ lo (hi - lo).toNat, ?_, fun b hb => ?_, q⟩
    · show IsLongIter _ _ (lo + ((0 : Nat) : Int) * 1) ((((hi - lo).toNat : Nat) : Int) - ((0 : Nat) : Int)) 1
      rw [e1, e2]
      exact Heap.get?_push_size _ rfl
    · have e : b = (s.heap.push { cls := .type "range", data := .fields #[.int lo t, .int hi u, .int 1 v] }).objs.size := by simpa using hb
      subst e
      exact I1.fpOk (Nat.le_refl _) (I1.hok.fresh (Nat.le_refl _))
def iRng2A (ta : TA) : TI := fun σ H R => ta σ H fun vs H1 => ∃ i j : Int, vs = [.int i, .int j] ∧ R (Itr i (j - i).toNat) H1
theorem pi_range2A {a b : Expr} {ta : TA} {p pos : Pos} (hg : Gl X "range") (hm : X.mg "range" = none) (ha : PA X [a, b] ta) (hs : starEach [a, b] X.env = [(false, eval a X.env), (false, eval b X.env)] := by rfl) (hs2 : starEach [b] X.env = [(false, eval b X.env)] := by rfl) :
    PI X tg (.Call (.Name "range" p) [a, b] [] pos) (iRng2A ta) := by
  refine ⟨fun pins s σ H R I h => ?_⟩
  refine Call_ (ld_blt I hg hm boot_range (PyProof.Rows.callWith_type1 (thn (ha.run pos pins s σ H _ I h) fun us s1 ⟨vs, H1, I1, r1, q1⟩ => ?_) (by rw [hs, hs2]) (by rw [hs2]; rfl)))
  obtain ⟨i, j, e, q⟩ := q1
  subst e
  cases r1 with
  | cons r rr =>
    cases rr with
    | cons r' rr =>
      cases rr
      obtain ⟨t, rfl⟩ := r
      obtain ⟨t', rfl⟩ := r'
      exact call_range_2 (range_itA I1 q)
end
end L2
namespace G
open PySem PySem.Spec PyProof.Rows
open L2 hiding St Inv Binds
def rng2A : List PyData → Option (List PyData)
  | [.int i, .int j] => some (rngs i (j - i).toNat)
  | _ => none
section
variable {X : Cx} {κ : List SK} {W : WX} {pu : Bool} {tg : Expr} {fa : M (List PyData)}
theorem qi_range2A {a b : Expr} {p pos : Pos} (hg : Gl X "range") (hm : X.mg "range" = none) (ha : QA X κ W pu [.sh, .sh] [a, b] fa) (hs : starEach [a, b] X.env = [(false, eval a X.env), (false, eval b X.env)] := by rfl) (hs2 : starEach [b] X.env = [(false, eval b X.env)] := by rfl) :
    QI X κ W pu tg (.Call (.Name "range" p) [a, b] [] pos) (aft1 rng2A fa) :=
  PI.imp (pi_range2A hg hm ha hs hs2) fun σ H R h => ai_ok h fun vs ds es H' ok e w => by
    cases ok with
    | cons o1 ok =>
      cases ok with
      | cons o2 ok =>
        cases ok with
        | nil =>
          unfold rng2A at e
          split at e
          · rename_i i j hj
            cases hj
            cases e
            cases o1.1
            cases o2.1
            exact ⟨i, j, rfl, w _ (walk_rng i _)⟩
          · cases e
end
end G

/-! G40: the record of draws of part two: cells, left (own), at. -/
namespace G
open PySem PySem.Spec PyProof.Rows
open L2 hiding St Inv Binds
def oA (K : PySem.W.Frag) : OP where
  p := fun H v d F => ∃ a b c cs gs k xs, v = .ref a ∧ F = [a, b] ∧ a ≠ b ∧ d = .tuple [.list cs, .list gs, .int k] ∧ H a = some (.dK [(.inr "cells", c), (.inr "left", .ref b), (.inr "at", .int k)]) ∧ Rp K H c (.list cs) ∧ H b = some (.lst xs) ∧ RpAll K H xs gs
  frame := by
    rintro H H' v d F ⟨a, b, c, cs, gs, k, xs, rfl, rfl, hne, rfl, h1, h2, h3, h4⟩ hF kp
    exact ⟨a, b, c, cs, gs, k, xs, rfl, rfl, hne, rfl, (hF a (by simp)).trans h1, Rp.kp kp _ _ h2, (hF b (by simp)).trans h3, RpAll.kp kp _ _ h4⟩
  live := by
    rintro H v d F ⟨a, b, c, cs, gs, k, xs, rfl, rfl, hne, rfl, h1, h2, h3, h4⟩ e he
    have : e = a ∨ e = b := by simpa using he
    rcases this with rfl | rfl
    · exact ⟨_, h1, rfl⟩
    · exact ⟨_, h3, rfl⟩
section
variable {X : Cx} {κ : List SK} {W : WX} {x : Str} {p pos q2 : Pos} {j : Nat} {c : V → Prop} {jj : Option Str}
theorem qe_aC {j} (i : Nat) (hu : X.A.units + 64 < cLine) (hk : κ[i]? = some (.ow c (oA X.K))) (hp : PE X (.Name x p) (tVar i)) : QE X κ W true .sh (.Subscript (.Name x p) (.Constant (.str "cells") j q2) pos) (eM i 0) := by
  refine PE.imp (pe_dget (by omega) hp pe_str (fun _ _ => rfl)) fun σ H Q ⟨ρ, G, fr, q⟩ => ?_
  obtain ⟨v, d0, q1, q2, _, a, b, c, cs, gs, k, xs, rfl, eG, hne, rfl, h1, h2, h3, h4⟩ := fr.ok i _ hk
  unfold eM at q
  rw [q2] at q
  exact ⟨_, q1, a, c, rfl, .inl ⟨_, .inr "cells", .inl h1, rfl, by rfl⟩, val_sh fr q h2⟩
theorem qe_aS {j} (i : Nat) (hu : X.A.units + 64 < cLine) (hk : κ[i]? = some (.ow c (oA X.K))) (hp : PE X (.Name x p) (tVar i)) : QE X κ W true .sh (.Subscript (.Name x p) (.Constant (.str "at") j q2) pos) (eM i 2) := by
  refine PE.imp (pe_dget (by omega) hp pe_str (fun _ _ => rfl)) fun σ H Q ⟨ρ, G, fr, q⟩ => ?_
  obtain ⟨v, d0, q1, q2, _, a, b, c, cs, gs, k, xs, rfl, eG, hne, rfl, h1, h2, h3, h4⟩ := fr.ok i _ hk
  unfold eM at q
  rw [q2] at q
  exact ⟨_, q1, a, .int k, rfl, .inl ⟨_, .inr "at", .inl h1, rfl, by rfl⟩, val_sh fr q (.int k)⟩
theorem qe_aG {j} (i : Nat) (hu : X.A.units + 64 < cLine) (hk : κ[i]? = some (.ow c (oA X.K))) (hp : PE X (.Name x p) (tVar i)) : QE X κ W true .pk (.Subscript (.Name x p) (.Constant (.str "left") j q2) pos) (eM i 1) := by
  refine PE.imp (pe_dget (by omega) hp pe_str (fun _ _ => rfl)) fun σ H Q ⟨ρ, G, fr, q⟩ => ?_
  obtain ⟨v, d0, q1, q2, _, a, b, c, cs, gs, k, xs, rfl, eG, hne, rfl, h1, h2, h3, h4⟩ := fr.ok i _ hk
  unfold eM at q
  rw [q2] at q
  exact ⟨_, q1, a, .ref b, rfl, .inl ⟨_, .inr "left", .inl h1, rfl, by rfl⟩, val_ok fr q (.refl H) ⟨.lst h3 h4, rfl⟩ fun _ z => nomatch z⟩
end
section
variable {X : Cx} {J : Jx} {κ : List SK} {pv : Bool} {x : Str} {p tpos pos q2 : Pos} {e : Expr} {fv : M PyData} {c : V → Prop}
theorem qs_aS {j} (i : Nat) (hu : X.A.units + 64 < cLine) (hk : κ[i]? = some (.ow c (oA X.K))) (hp : PE X (.Name x p) (tVar i)) (hv : QE X κ J.W pv .sh e fv) (wx : Wk κ J.κx)
    (hs : swapsWith e (some (.Subscript (.Name x p) (.Constant (.str "at") j q2) tpos)) pos.line X.env = pure false := by rfl) :
    QS X J κ κ (.Assign [.Subscript (.Name x p) (.Constant (.str "at") j q2) tpos] e pos) (sPutMi i 2 fv) := by
  refine PS.imp (ps_dput (by omega) hp pe_str hv hs) fun D σ H ⟨ρ, G, fr, h⟩ => ⟨ρ, G, fr, ?_⟩
  unfold sPutMi at h
  cases e1 : fv ρ with
  | bad => rw [e1] at h; exact h
  | ex c p ρ' => rw [e1] at h; exact fun cls dd H' G' x f' r' => h cls dd σ H' G' x (f'.weak wx) (r'.sub fun b z => z.weak wx)
  | ok d ρ1 =>
    rw [e1] at h
    intro y H1 G1 F1 f1 r1 s1 ok1 n1
    obtain ⟨v, d0, q1, q2, _, a, b, c, cs, gs, k, xs, rfl, eG, hne, rfl, h1, h2, h3, h4⟩ := f1.ok i _ hk
    cases d with
    | int n =>
      obtain rfl : y = V.int n := ok1.pks.int
      dsimp only at h
      unfold putM at h
      rw [q2] at h
      have kp : Kp H1 (upd H1 a (.dK [(.inr "cells", c), (.inr "left", .ref b), (.inr "at", .int n)])) := kp_upd h1 rfl
      have hm : a ∈ G1 i := by rw [eG]; simp
      have ne : ∀ b' u, b' ∉ G1 i → H1 b' = some u → (upd H1 a (.dK [(.inr "cells", c), (.inr "left", .ref b), (.inr "at", .int n)])) b' = some u := fun b' u hb e => upd_other hm hb e
      refine ⟨_, q1, a, _, rfl, .inl ⟨_, .inr "at", h1, rfl, by show 3 < sizeLine; decide, rfl⟩, ?_⟩
      refine h σ _ G1 (f1.wr hk q1 ⟨a, b, c, cs, gs, n, xs, rfl, eG, hne, rfl, ?_, Rp.kp kp _ _ h2, ?_, RpAll.kp kp _ _ h4⟩ kp ne) (r1.trans (Rel.wr hk ne fun b z => upd_none z))
      · exact upd_same
      · rw [upd_ne (Ne.symm hne)]; exact h3
    | _ => exact h.elim
theorem qs_aG {j} (i : Nat) (hu : X.A.units + 64 < cLine) (hk : κ[i]? = some (.ow c (oA X.K))) (hp : PE X (.Name x p) (tVar i)) (hv : QE X κ J.W pv (.ow (oLst X.K)) e fv) (wx : Wk κ J.κx)
    (hs : swapsWith e (some (.Subscript (.Name x p) (.Constant (.str "left") j q2) tpos)) pos.line X.env = pure false := by rfl) :
    QS X J κ κ (.Assign [.Subscript (.Name x p) (.Constant (.str "left") j q2) tpos] e pos) (sPutM i 1 fv) := by
  refine PS.imp (ps_dput (by omega) hp pe_str hv hs) fun D σ H ⟨ρ, G, fr, h⟩ => ⟨ρ, G, fr, ?_⟩
  unfold sPutM at h
  cases e1 : fv ρ with
  | bad => rw [e1] at h; exact h
  | ex c p ρ' => rw [e1] at h; exact fun cls dd H' G' x f' r' => h cls dd σ H' G' x (f'.weak wx) (r'.sub fun b z => z.weak wx)
  | ok d ρ1 =>
    rw [e1] at h
    intro y H1 G1 F1 f1 r1 s1 ok1 n1
    obtain ⟨v, d0, q1, q2, _, a, b, c', cs, gs, k, xs, rfl, eG, hne, rfl, h1, h2, h3, h4⟩ := f1.ok i _ hk
    obtain ⟨b2, ys, es, rfl, rfl, rfl, g1, g2⟩ := ok1
    have nb := n1 b2 (by simp)
    have hab : a ≠ b2 := fun z => nb.2 ⟨i, _, _, hk, by rw [eG, ← z]; simp⟩
    dsimp only at h
    unfold putM at h
    rw [q2] at h
    have kp : Kp H1 (upd H1 a (.dK [(.inr "cells", c'), (.inr "left", .ref b2), (.inr "at", .int k)])) := kp_upd h1 rfl
    have hm : a ∈ G1 i := by rw [eG]; simp
    have ne : ∀ b' u, b' ≠ a → H1 b' = some u → (upd H1 a (.dK [(.inr "cells", c'), (.inr "left", .ref b2), (.inr "at", .int k)])) b' = some u := fun b' u hb e => by rw [upd_ne hb]; exact e
    refine ⟨_, q1, a, _, rfl, .inl ⟨_, .inr "left", h1, rfl, by show 3 < sizeLine; decide, rfl⟩, ?_⟩
    -- the frame
    have fin : FR X.K κ (ρ1.set i (.tuple ([.list cs, .list gs, .int k].set 1 (.list es)))) σ (upd H1 a (.dK [(.inr "cells", c'), (.inr "left", .ref b2), (.inr "at", .int k)])) (fun j => if j = i then [a, b2] else G1 j) := by
      refine ⟨f1.l1, by rw [List.length_set]; exact f1.l2, fun j s e => ?_, fun j j' o o1 o' o1' e e' b' hb hb' => ?_⟩
      · by_cases hj : j = i
        · subst hj
          rw [hk] at e; cases e
          obtain ⟨v0, d0, e1, e2, h0, _⟩ := f1.ok j _ hk
          rw [q1] at e1; cases e1
          refine ⟨.ref a, _, q1, by rw [List.getElem?_set_self]; exact (List.getElem?_eq_some_iff.mp e2).1, h0, ?_⟩
          rw [if_pos rfl]
          refine ⟨a, b2, c', cs, es, k, ys, rfl, rfl, hab, rfl, upd_same, Rp.kp kp _ _ h2, ?_, RpAll.kp kp _ _ g2⟩
          rw [upd_ne (Ne.symm hab)]; exact g1
        · rw [List.getElem?_set_ne (Ne.symm hj), if_neg hj]
          have q := f1.ok j s e
          cases s with
          | no => trivial
          | sh =>
            obtain ⟨v, d, e1, e2, h1⟩ := q
            exact ⟨v, d, e1, e2, Rp.kp kp _ _ h1⟩
          | ow c2 o2 =>
            obtain ⟨v, d, e1, e2, h0, h1⟩ := q
            refine ⟨v, d, e1, e2, h0, o2.frame h1 (fun b' hb => ?_) kp⟩
            exact upd_ne fun z => hj (f1.dj j i _ _ _ _ e hk b' hb (by rw [eG, z]; simp))
      · have ap : ∀ {j : Nat} {o : V → Prop} {o1 : OP}, κ[j]? = some (.ow o o1) → j ≠ i → b' ∈ G1 j → b' ∈ [a, b2] → False := fun {j o o1} e hj hb hb' => by
          have : b' = a ∨ b' = b2 := by simpa using hb'
          rcases this with z | z
          · exact hj (f1.dj j i _ _ _ _ e hk b' hb (by rw [eG, z]; simp))
          · exact nb.2 ⟨j, _, _, e, z ▸ hb⟩
        by_cases hj : j = i
        · by_cases hj' : j' = i
          · rw [hj, hj']
          · rw [if_pos hj] at hb
            rw [if_neg hj'] at hb'
            exact (ap e' hj' hb' hb).elim
        · rw [if_neg hj] at hb
          by_cases hj' : j' = i
          · rw [if_pos hj'] at hb'
            exact (ap e hj hb hb').elim
          · rw [if_neg hj'] at hb'
            exact f1.dj j j' _ _ _ _ e e' b' hb hb'
    refine h σ _ _ fin ⟨fun b' u hb n => ?_, fun b' z => ?_, fun b' z => r1.non b' (upd_none z)⟩
    · by_cases hz : b' = a
      · have o1 : Own κ G1 a := ⟨i, _, _, hk, hm⟩
        rcases r1.new a o1 with q | q
        · exact absurd (hz ▸ q) n
        · rw [hz, q] at hb; cases hb
      · exact ne b' u hz (r1.keep b' u hb n)
    · obtain ⟨j, o, o1, e, hb⟩ := z
      dsimp only at hb
      by_cases hj : j = i
      · rw [if_pos hj] at hb
        have : b' = a ∨ b' = b2 := by simpa using hb
        rcases this with z | z
        · rw [z]; exact r1.new a ⟨i, _, _, hk, hm⟩
        · rw [z]; exact nb.1
      · rw [if_neg hj] at hb
        exact r1.new b' ⟨j, _, _, e, hb⟩
theorem qs_aG0 {j jj} {p3 p4 : Pos} {n0 : Int} (i : Nat) (hu : X.A.units + 64 < cLine) (hk : κ[i]? = some (.ow c (oA X.K))) (hp : PE X (.Name x p) (tVar i)) (hv : QE X κ J.W pv .sh e fv) (wx : Wk κ J.κx)
    (hs : swapsWithSole [.Subscript (.Subscript (.Name x p) (.Constant (.str "left") j q2) p3) (.Constant (.int n0) jj p4) tpos] e pos.line X.env = pure false := by rfl) (hw : swappedStores [.Subscript (.Subscript (.Name x p) (.Constant (.str "left") j q2) p3) (.Constant (.int n0) jj p4) tpos] e X.env = pure none := by rfl)
    (h1 : (assignEach [.Subscript (.Subscript (.Name x p) (.Constant (.str "left") j q2) p3) (.Constant (.int n0) jj p4) tpos] X.env).map (·.2) = [assign (.Subscript (.Subscript (.Name x p) (.Constant (.str "left") j q2) p3) (.Constant (.int n0) jj p4) tpos) X.env] := by rfl)
    (ha : ∀ v, assign (.Subscript (.Subscript (.Name x p) (.Constant (.str "left") j q2) p3) (.Constant (.int n0) jj p4) tpos) X.env v = (do
      let ov ← holding [v] (eval (.Subscript (.Name x p) (.Constant (.str "left") j q2) p3) X.env)
      let iv ← holding [v, ov] (eval (.Constant (.int n0) jj p4) X.env)
      standAt tpos
      holding [v, ov, iv] (setItem ov iv v)
      release [v, ov, iv] []) := by intro _; rfl) :
    QS X J κ κ (.Assign [.Subscript (.Subscript (.Name x p) (.Constant (.str "left") j q2) p3) (.Constant (.int n0) jj p4) tpos] e pos) (sPutG0 i n0 fv) := by
  refine PS.imp (ps_asg hv (pg_sub (pe_dget (by omega) hp pe_str (fun _ _ => rfl)) pe_int set_list ha) hs hw h1) fun D σ H ⟨ρ, G, fr, h⟩ => ⟨ρ, G, fr, ?_⟩
  unfold sPutG0 at h
  cases e1 : fv ρ with
  | bad => rw [e1] at h; exact h
  | ex c p ρ' => rw [e1] at h; exact fun cls dd H' G' x f' r' => h cls dd σ H' G' x (f'.weak wx) (r'.sub fun b z => z.weak wx)
  | ok d ρ1 =>
    rw [e1] at h
    intro y H1 G1 F1 f1 r1 s1 ok1 n1
    obtain ⟨v, d0, q1, q2, _, a, b, c', cs, gs, k, xs, rfl, eG, hne, rfl, h1, h2, h3, h4⟩ := f1.ok i _ hk
    dsimp only at h
    rw [q2] at h
    dsimp only at h
    cases e2 : ixN gs.length n0 with
    | none => rw [e2] at h; exact h.elim
    | some j =>
      rw [e2] at h
      have kp : Kp H1 (upd H1 b (.lst (xs.set j y))) := kp_upd h3 rfl
      have hm : b ∈ G1 i := by rw [eG]; simp
      have ne : ∀ b' u, b' ∉ G1 i → H1 b' = some u → (upd H1 b (.lst (xs.set j y))) b' = some u := fun b' u hb e => upd_other hm hb e
      refine ⟨_, q1, a, .ref b, rfl, .inl ⟨_, .inr "left", .inl h1, rfl, by rfl⟩, b, xs, n0, j, rfl, rfl, h3, by rw [h4.len]; exact e2, ?_⟩
      refine h σ _ G1 (f1.wr hk q1 ⟨a, b, c', cs, _, k, _, rfl, eG, hne, rfl, ?_, Rp.kp kp _ _ h2, upd_same, (RpAll.kp kp _ _ h4).set j (Rp.kp kp _ _ ok1.1)⟩ kp ne) (r1.trans (Rel.wr hk ne fun b z => upd_none z))
      rw [upd_ne hne]; exact h1

end
section
variable {X : Cx} {J : Jx} {κ : List SK} {pv : Bool} {x : Str} {p tpos pos q2 : Pos} {e : Expr} {fv : M PyData} {c : V → Prop}
theorem qs_retA {κn : List SK} {n0 : Int} {j1 j2 j3 j4} {p1 p2 p3 p4 p5 : Pos} {pv2 : Bool} {e2 : Expr} {gv : M PyData} (hv : QE X κ J.W pv .sh e fv) (hv2 : QE X κ J.W pv2 (.ow (oLst X.K)) e2 gv) (hr : J.rk = .ow (oA X.K)) (wr : Wk κ J.κr) (wx : Wk κ J.κx) :
    QS X J κ κn (.Return (some (.Dict [some (.Constant (.str "cells") j1 p1), some (.Constant (.str "left") j2 p2), some (.Constant (.str "at") j3 p3)] [e, e2, .Constant (.int n0) j4 p4] p5)) pos) (sRetQ fv gv n0) := by
  refine PS.imp (ps_ret (pe_disp (pps_cons pe_str hv (pps_cons pe_str hv2 (pps_cons pe_str pe_int pps_nil))) rfl rfl (by simp) (by simp))) fun D σ H ⟨ρ, G, fr, h⟩ => ?_
  intro a hna
  have sm : Same H (upd H a (.dK [])) := same_upd0 hna
  refine ⟨ρ, G, fr.same sm, ?_⟩
  unfold sRetQ at h
  cases e1 : fv ρ with
  | bad => rw [e1] at h; exact h
  | ex c p ρ' => rw [e1] at h; exact fun cls dd H' G' x f' r' => h cls dd σ H' G' x (f'.weak wx) (((Rel.of_same sm).trans r').sub fun b z => z.weak wx)
  | ok d ρ1 =>
    rw [e1] at h
    intro y H1 G1 F1 f1 r1 s1 ok1 n1
    have na : ¬ Own κ G a := fun z => by
      obtain ⟨u, e, _⟩ := fr.live z
      rw [hna] at e; cases e
    have e1a : H1 a = some (.dK []) := r1.keep _ _ upd_same na
    have na1 : ¬ Own κ G1 a := fun z => by
      rcases r1.new _ z with q | q
      · exact na q
      · rw [upd_same] at q; cases q
    dsimp only at h
    refine ⟨ρ1, G1, f1, ?_⟩
    cases e3 : gv ρ1 with
    | bad => rw [e3] at h; exact h
    | ex c p ρ' => rw [e3] at h; exact fun cls dd H' G' x f' r' => h cls dd σ H' G' x (f'.weak wx) (((Rel.of_same sm).trans (r1.trans r')).sub fun b z => z.weak wx)
    | ok d2 ρ2 =>
      rw [e3] at h
      intro y2 H2 G2 F2 f2 r2 s2 ok2 n2
      have e2a : H2 a = some (.dK []) := r2.keep _ _ e1a na1
      have na2 : ¬ Own κ G2 a := fun z => by
        rcases r2.new _ z with q | q
        · exact na1 q
        · rw [e1a] at q; cases q
      obtain ⟨b, xs, gs, rfl, rfl, rfl, g1, g2⟩ := ok2
      have nb := n2 b (by simp)
      have hab : a ≠ b := fun z => by
        rcases nb.1 with q | q
        · exact na1 (z ▸ q)
        · rw [← z, e1a] at q; cases q
      cases d with
      | list cs =>
        dsimp only at h
        refine ⟨e2a, [(.inr "cells", y), (.inr "left", .ref b), (.inr "at", .int n0)], rfl, by simp, ?_⟩
        have em : mergeK [] [((.inr "cells" : Key), y), (.inr "left", .ref b), (.inr "at", .int n0)] = [(.inr "cells", y), (.inr "left", .ref b), (.inr "at", .int n0)] := by rfl
        rw [em]
        have kp : Kp H2 (upd H2 a (.dK [(.inr "cells", y), (.inr "left", .ref b), (.inr "at", .int n0)])) := kp_upd e2a rfl
        have ra : Rel H (Own κ G) H2 (Own κ G2) := ((Rel.of_same (S := Own κ G) sm).trans r1).trans r2
        have r3 : Rel H (Own κ G) (upd H2 a (.dK [(.inr "cells", y), (.inr "left", .ref b), (.inr "at", .int n0)])) (Own κ G2) := by
          refine ⟨fun b u hb n => ?_, ra.new, fun b z => ra.non b (upd_none z)⟩
          rw [upd_ne]
          · exact ra.keep b u hb n
          · intro z; rw [z, hna] at hb; cases hb
        have f3 := f2.updF (u := .dK [(.inr "cells", y), (.inr "left", .ref b), (.inr "at", .int n0)]) na2 kp
        have kp2 : Kp H1 H2 := f1.kp r2
        refine h (.ref a) σ _ G2 [a, b] (f3.weak wr) ⟨r3.keep, fun b' z => ?_, r3.non⟩ (by
          rw [hr]
          exact ⟨a, b, y, cs, gs, n0, xs, rfl, rfl, hab, rfl, upd_same, Rp.kp kp _ _ (Rp.kp kp2 _ _ ok1.1), by rw [upd_ne (Ne.symm hab)]; exact g1, RpAll.kp kp _ _ g2⟩) fun b' hb z => ?_
        · rcases z with z | z
          · have : b' = a ∨ b' = b := by simpa using z
            rcases this with z | z
            · exact .inr (z ▸ hna)
            · rw [z]
              have r0 := (Rel.of_same (S := Own κ G) sm).trans r1
              rcases nb.1 with q | q
              · exact r0.new b q
              · exact .inr (r0.non b q)
          · exact r3.new b' (z.weak wr)
        · have : b' = a ∨ b' = b := by simpa using hb
          rcases this with q | q
          · exact na2 (q ▸ z.weak wr)
          · exact nb.2 (q ▸ z.weak wr)
      | _ => exact h.elim
end
end G

/-! G41: xs[::-1], three at once, n *= m, xs[k] as one of several targets. -/
namespace G
open PySem PySem.Spec PyProof.Rows
open L2 hiding St Inv Binds
/-! ### xs[::-1] -/
def dRevL : PyData → Option PyData
  | .list ds => some (.list ds.reverse)
  | _ => none
theorem RpAll.rev {K : PySem.W.Frag} {H : Hp} : ∀ {xs : List V} {ds : List PyData}, RpAll K H xs ds → RpAll K H xs.reverse ds.reverse
  | _, _, .nil => .nil
  | _, _, .cons h t => by
    rw [List.reverse_cons, List.reverse_cons]
    exact (RpAll.rev t).append (.cons h .nil)
section
variable {X : Cx} {κ : List SK} {W : WX} {pu : Bool} {k : RK} {e : Expr} {f : M PyData}
theorem qe_revL {j : Nat} {p1 p2 p3 pos : Pos} (h : QE X κ W pu k e f) (hl : k.looks X.K := by trivial) : QE X κ W pu (.ow (oLst X.K)) (.Subscript e (.Slice none none (some (.UnaryOp .USub (.Constant (.int 1) j p1) p2)) p3) pos) (eUn dRevL f) := by
  refine PE.imp (pe_revL h) fun σ H Q ⟨ρ, G, fr, z⟩ => ⟨ρ, G, fr, ?_⟩
  unfold eUn at z
  cases e1 : f ρ with
  | bad => rw [e1] at z; exact z
  | ex c p ρ' => rw [e1] at z; exact z
  | ok d ρ1 =>
    rw [e1] at z
    intro v H1 G1 F1 f1 r1 s1 ok1 n1
    dsimp only at z
    unfold dRevL at z
    split at z
    · rename_i r e2
      split at e2
      · rename_i ds
        cases e2
        obtain ⟨a, xs, rfl, hq, ra⟩ := (ok1.pk hl).list
        refine ⟨a, xs, rfl, hq, fun p hp => ?_⟩
        have sm : Same H1 (upd H1 p (.lst xs.reverse)) := same_upd0 hp
        refine z (.ref p) _ G1 [p] (f1.same sm) (r1.trans (.of_same sm)) (fun q => (s1 q).trans sm) ⟨p, _, _, rfl, rfl, rfl, upd_same, RpAll.kp (.of_same sm) _ _ ra.rev⟩ fun b hb => ?_
        rw [List.mem_singleton] at hb
        subst hb
        refine ⟨.inr (r1.non _ hp), fun z => ?_⟩
        obtain ⟨u, e, _⟩ := f1.live z
        rw [hp] at e; cases e
      · cases e2
    · exact z.elim
end
/-! ### three at once, the last one of any kind -/
theorem qs_par3L {X : Cx} {J : Jx} {κ : List SK} {pa pb pc : Bool} {fa fb fc : M PyData} {rc : RK} {i j l : Nat} {x y z : Str} {a b c : Expr} {pos px py pz pt : Pos} {kt k2 pt2} (hc : X.calm = true) (hN : X.N.Nodup) (hi : X.N[i]? = some x) (hj : X.N[j]? = some y) (hl : X.N[l]? = some z) (hij : i ≠ j) (hil0 : i ≠ l) (hjl0 : j ≠ l)
    (hx : X.env.scope.names.lookup x = some .local) (hy : X.env.scope.names.lookup y = some .local) (hz : X.env.scope.names.lookup z = some .local) (ha : QE X κ J.W pa .sh a fa) (hb : QE X κ J.W pb .sh b fb) (hcc : QE X κ J.W pc rc c fc) (wx : Wk κ J.κx)
    (hw : swappedStores [.Tuple [.Name x px, .Name y py, .Name z pz] kt pt] (.Tuple [a, b, c] k2 pt2) X.env = pure (some [x, y, z])) (hrc : rc ≠ .pk := by intro z; cases z) (hil : i < κ.length := by first | decide | simp) (hjl : j < (κ.set i .sh).length := by first | decide | simp) (hll : l < ((κ.set i .sh).set j .sh).length := by first | decide | simp)
    (hs : swapsWithSole [.Tuple [.Name x px, .Name y py, .Name z pz] kt pt] (.Tuple [a, b, c] k2 pt2) pos.line X.env = pure false := by rfl)
    (t1 : starEach [a, b, c] X.env = (false, eval a X.env) :: starEach [b, c] X.env := by rfl) (t2 : starEach [b, c] X.env = (false, eval b X.env) :: starEach [c] X.env := by rfl) (t3 : starEach [c] X.env = (false, eval c X.env) :: starEach [] X.env := by rfl) :
    QS X J κ (((κ.set i .sh).set j .sh).set l (skR rc)) (.Assign [.Tuple [.Name x px, .Name y py, .Name z pz] kt pt] (.Tuple [a, b, c] k2 pt2) pos) (sPar3 i j l fa fb fc) := by
  refine PS.imp (ps_par3 hc hN hi hj hl hij hil0 hjl0 hx hy hz (pa_cons ha (pa_cons hb (pa_cons hcc pa_nil t3) t2) t1) hw hs) fun D σ H ⟨ρ, G, fr, h⟩ => ⟨ρ, G, fr, ?_⟩
  unfold sPar3 at h
  cases e1 : fa ρ with
  | bad => rw [e1] at h; exact h
  | ex c p ρ' => rw [e1] at h; exact fun cls dd H' G' x f' r' => h cls dd σ H' G' x (f'.weak wx) (r'.sub fun b z => z.weak wx)
  | ok d ρ1 =>
    rw [e1] at h
    intro v H1 G1 F1 f1 r1 s1 ok1 n1
    dsimp only at h
    refine ⟨ρ1, G1, f1, ?_⟩
    cases e2 : fb ρ1 with
    | bad => rw [e2] at h; exact h
    | ex c p ρ' => rw [e2] at h; exact fun cls dd H' G' x f' r' => h cls dd σ H' G' x (f'.weak wx) ((r1.trans r').sub fun b z => z.weak wx)
    | ok e ρ2 =>
      rw [e2] at h
      intro w H2 G2 F2 f2 r2 s2 ok2 n2
      dsimp only at h
      refine ⟨ρ2, G2, f2, ?_⟩
      cases e3 : fc ρ2 with
      | bad => rw [e3] at h; exact h
      | ex c p ρ' => rw [e3] at h; exact fun cls dd H' G' x f' r' => h cls dd σ H' G' x (f'.weak wx) (((r1.trans r2).trans r').sub fun b z => z.weak wx)
      | ok k ρ3 =>
        rw [e3] at h
        intro u H3 G3 F3 f3 r3 s3 ok3 n3
        dsimp only at h
        refine ⟨v, w, u, rfl, ?_⟩
        have g1 := f3.put (i := i) (k := .sh) (v := v) (d := d) (F := []) hil ⟨v, d, rfl, rfl, Rp.kp ((f1.kp r2).trans (f2.kp r3)) _ _ ok1.1⟩ (fun c o e => nomatch e)
        have g2 := g1.put (i := j) (k := .sh) (v := w) (d := e) (F := []) hjl ⟨w, e, rfl, rfl, Rp.kp (f2.kp r3) _ _ ok2.1⟩ (fun c o e => nomatch e)
        have g3 := g2.put (i := l) (k := skR rc) (v := u) (d := k) (F := F3) hll (ok3.slot hrc) (fun c o e b hb z => by
          rcases Own.put hjl z with ⟨z, _⟩ | z
          · cases z
          · rcases Own.put hil z with ⟨z, _⟩ | z
            · cases z
            · exact (n3 b hb).2 z)
        have rr := (r1.trans r2).trans r3
        refine h _ H3 _ g3 ⟨rr.keep, fun b z => ?_, rr.non⟩
        rcases Own.put hll z with ⟨z, _⟩ | z
        · rcases (n3 b z).1 with q | q
          · exact (r1.trans r2).new b q
          · exact .inr ((r1.trans r2).non b q)
        · rcases Own.put hjl z with ⟨z, _⟩ | z
          · cases z
          · rcases Own.put hil z with ⟨z, _⟩ | z
            · cases z
            · exact rr.new b z
/-! ### n *= m -/
def dMulI : PyData → PyData → Option PyData
  | .int i, .int j => if i.natAbs.log2 + j.natAbs.log2 < 100000000 then some (.int (i * j)) else none
  | _, _ => none
theorem ip_mulD {X : Cx} : PIp X .Mult (fun x y H Q => ∃ i j : Int, x = .int i ∧ y = .int j ∧ CMulX i j ∧ Q (.int (i * j)) H) := by
  intro pins s σ H x y v u Q I r1 r2 h
  obtain ⟨i, j, rfl, rfl, hc, q⟩ := h
  obtain ⟨t, rfl⟩ := r1
  obtain ⟨t', rfl⟩ := r2
  exact AutoIntOps.imul_0 ⟨.int _, H, I.tok _, ⟨_, rfl⟩, q⟩ hc.ok
theorem qs_augM {X : Cx} {J : Jx} {κ : List SK} {pu : Bool} {x : Str} {e : Expr} {fe : M PyData} {pos pos' : Pos} (i : Nat) (hN : X.N.Nodup) (hi : X.N[i]? = some x) (hx : Loc X.env.scope x) (hk : κ[i]? = some .sh) (he : QE X κ J.W pu .sh e fe) (wx : Wk κ J.κx)
    (hf : X.fn x = true ∨ X.env.scope.names.lookup x = some .local := by first | exact .inl rfl | exact .inr rfl | assumption) :
    QS X J κ κ (.AugAssign (.Name x pos') .Mult e pos) (sAug i dMulI fe) := by
  refine PS.imp (ps_aug hN hi hx he ip_mulD hf) fun D σ H ⟨ρ, G, fr, h⟩ => ?_
  obtain ⟨v, d, e1, e2, r⟩ := fr.ok i _ hk
  unfold sAug at h
  refine ⟨v, e1, ρ, G, fr, ?_⟩
  cases e4 : fe ρ with
  | bad => rw [e4] at h; exact h
  | ex c p ρ' => rw [e4] at h; exact fun cls dd H' G' x f' r' => h cls dd σ H' G' x (f'.weak wx) (r'.sub fun b z => z.weak wx)
  | ok dy ρ' =>
    rw [e4] at h
    dsimp only at h
    rw [e2] at h
    dsimp only at h
    intro y H' G' F f' r' s' ok n'
    cases e5 : dMulI d dy with
    | none => rw [e5] at h; exact h.elim
    | some rr =>
      rw [e5] at h
      unfold dMulI at e5
      split at e5
      · rename_i a b
        split at e5
        · rename_i hl
          cases e5
          cases r
          obtain rfl : y = V.int b := ok.pks.int
          have hkl : i < κ.length := (List.getElem?_eq_some_iff.mp hk).1
          refine ⟨a, b, rfl, rfl, mulx_ok (a := _ + 1) (b := _ + 1) Nat.lt_log2_self Nat.lt_log2_self (by omega), ?_⟩
          have g1 := f'.put (i := i) (k := .sh) (v := .int (a * b)) (d := .int (a * b)) (F := []) hkl ⟨_, _, rfl, rfl, .int _⟩ (fun c o e => nomatch e)
          have ek : κ.set i .sh = κ := by
            apply List.ext_getElem?
            intro q
            by_cases hq : i = q
            · subst hq
              rw [List.getElem?_set_self hkl, hk]
            · rw [List.getElem?_set_ne hq]
          rw [ek] at g1
          refine h _ H' _ g1 ⟨r'.keep, fun b' z => ?_, r'.non⟩
          have z2 : Own (κ.set i .sh) (fun j => if j = i then [] else G' j) b' := by rw [ek]; exact z
          rcases Own.put hkl z2 with ⟨z3, _⟩ | z3
          · cases z3
          · exact r'.new b' z3
        · cases e5
      · cases e5
/-! ### xs[k] as one of several targets -/
def putLd (i : Nat) (fk : M PyData) : TD := fun d ρ => match fk ρ with
  | .ok k ρ2 => (match k, ρ2[i]? with
    | .int k, some (.list ds) => (match ixN ds.length k with
      | some j => some (ρ2.set i (.list (ds.set j d)))
      | none => none)
    | _, _ => none)
  | _ => none
theorem qgw_putL {X : Cx} {κ : List SK} {pk : Bool} {x : Str} {ke : Expr} {fk : M PyData} {p tpos : Pos} {c : V → Prop} (i : Nat) (hk : κ[i]? = some (.ow c (oLst X.K))) (hp : PE X (.Name x p) (tVar i)) (hi : QE X κ WF pk .sh ke fk)
    (ha : ∀ v, assign (.Subscript (.Name x p) ke tpos) X.env v = (do
      let ov ← holding [v] (eval (.Name x p) X.env)
      let iv ← holding [v, ov] (eval ke X.env)
      standAt tpos
      holding [v, ov, iv] (setItem ov iv v)
      release [v, ov, iv] []) := by intro _; rfl) : QGw X κ κ (.Subscript (.Name x p) ke tpos) (putLd i fk) := by
  refine PG.imp (pg_sub hp hi set_list ha) fun v σ H Q ⟨ρ, G, d, fr, r, q⟩ => ?_
  obtain ⟨v0, d0, q1, q2, _, a, xs, ds, rfl, eG, rfl, g1, g2⟩ := fr.ok i _ hk
  refine ⟨_, q1, ρ, G, fr, ?_⟩
  unfold putLd at q
  cases e2 : fk ρ with
  | bad => rw [e2] at q; exact q.elim
  | ex c p ρ' => rw [e2] at q; exact q.elim
  | ok k ρ2 =>
    rw [e2] at q
    intro kv H2 G2 F2 f2 r2 s2 ok2 n2
    obtain ⟨v', d', q1', q2', _, a', xs', ds', rfl, eG', rfl, g1', g2'⟩ := f2.ok i _ hk
    rw [q1] at q1'
    cases q1'
    dsimp only at q
    rw [q2'] at q
    cases k with
    | int k =>
      dsimp only at q
      cases e3 : ixN ds'.length k with
      | none => rw [e3] at q; exact q.elim
      | some j =>
        rw [e3] at q
        have kp : Kp H2 (upd H2 a (.lst (xs'.set j v))) := kp_upd g1' rfl
        have hm : a ∈ G2 i := by rw [eG']; simp
        have ne : ∀ b u, b ∉ G2 i → H2 b = some u → (upd H2 a (.lst (xs'.set j v))) b = some u := fun b u hb e => upd_other hm hb e
        refine ⟨a, xs', k, j, rfl, ok2.pks.int, g1', by rw [g2'.len]; exact e3, ?_⟩
        exact q σ _ G2 (f2.wr hk q1 ⟨a, _, _, rfl, eG', rfl, upd_same, (RpAll.kp kp _ _ g2').set j (Rp.kp kp _ _ (Rp.kp (fr.kp r2) _ _ r))⟩ kp ne) (r2.trans (Rel.wr hk ne fun b z => upd_none z))
    | _ => exact q.elim
end G

/-! G42: draws as the laws of part two make them. -/
namespace G
open PySem PySem.Spec PyProof.Rows
open L2 hiding St Inv Binds
def DNz (fuel : Nat) (zc p u a b q c d s e : Int) : M PyData := fnB [true, false] 4 false (sSeq (sWhile DNw DNb fuel) (sSeq (sIf (eTst asB (eBin dNe (eM 0 1) (eLst aNil))) (sSeq (sSet 2 (eCB dInt (aCons (eBin dIx (eM 0 1) (eK (.int 0))) aNil))) (sSeq (sPutG0 0 0 (eBin dDiv (eV 2) (eV 1))) (sRet (eBin dMod (eV 2) (eV 1))))) sNil)
  (sSeq (sSet 3 (eBin dAdd (eM 0 2) (eK (.int 1)))) (sSeq (sPutMi 0 2 (eV 3)) (sSeq (sSet 4 (eIf (eTst asB (eBin dNe (eM 0 0) (eLst aNil))) (eBin dIx (eM 0 0) (eBin dMod (eCB dInt (aCons (eV 3) aNil)) (eCB dLen (aCons (eM 0 0) aNil)))) (eK (.int zc))))
  (sSeq (sSet 5 (eBin dMul (eCB dInt (aCons (eBin dAdd (eBin dAdd (eBin dMod (eCB dInt (aCons (eV 4) aNil)) (eK (.int p))) (eBin dMul (eK (.int a)) (eV 3))) (eBin dMul (eBin dMul (eK (.int b)) (eV 3)) (eV 3))) aNil)) (eK (.int q))))
  (sSeq (sSet 5 (eBin dMul (eCB dInt (aCons (eBin dAdd (eBin dMod (eCB dInt (aCons (eV 5) aNil)) (eK (.int u))) (eBin dMul (eK (.int c)) (eV 3))) aNil)) (eK (.int d))))
  (sRet (eBin dMod (eCB dInt (aCons (eBin dDiv (eBin dMod (eCB dInt (aCons (eV 5) aNil)) (eK (.int s))) (eK (.int e))) aNil)) (eV 1))))))))))
theorem cellz_ok (zc : Int) (cs : List Int) (k : Int) (r : Ev) (hk : 0 ≤ k) (hr : r[2]? = some (.int k)) : ∃ v, eIf (eTst asB (eBin dNe (eM 0 0) (eLst aNil))) (eBin dIx (eM 0 0) (eBin dMod (eCB dInt (aCons (eV 3) aNil)) (eCB dLen (aCons (eM 0 0) aNil)))) (eK (.int zc)) (dat cs [] k :: r) = .ok (.int v) (dat cs [] k :: r) := by
  have h3 : eV 3 (dat cs [] k :: r) = .ok (.int k) (dat cs [] k :: r) := by
    unfold eV
    rw [List.getElem?_cons_succ, hr]
  cases cs with
  | nil =>
    refine ⟨zc, ?_⟩
    unfold eIf
    rw [tNe_cells]
    rfl
  | cons c cs =>
    have hl : (0 : Int) < ((c :: cs).length : Int) := by rw [List.length_cons]; omega
    have e1 : eBin dMod (eCB dInt (aCons (eV 3) aNil)) (eCB dLen (aCons (eM 0 0) aNil)) (dat (c :: cs) [] k :: r) = .ok (.int (k % ((c :: cs).length : Nat))) (dat (c :: cs) [] k :: r) := by
      refine eMod_ok (j := (((c :: cs).length : Nat) : Int)) (eInt_ok h3) ?_ hl
      have e : eCB dLen (aCons (eM 0 0) aNil) (dat (c :: cs) [] k :: r) = .ok (.int (((c :: cs).map PyData.int).length : Nat)) (dat (c :: cs) [] k :: r) := rfl
      rw [e, List.length_map]
    obtain ⟨v, hv⟩ := atI_int (ns := c :: cs) (i := k % ((c :: cs).length : Nat)) (Int.emod_nonneg _ (Int.ne_of_gt hl)) (Int.emod_lt_of_pos _ hl)
    refine ⟨v, ?_⟩
    unfold eIf
    rw [tNe_cells]
    dsimp only
    rw [if_pos (show (!(c :: cs).isEmpty) = true from rfl)]
    exact eBin_ok (a := .list ((c :: cs).map .int)) rfl e1 hv
theorem nextz_ok {fuel : Nat} {zc p u a b q c d s e : Int} (hp : 0 < p ∧ p < 2 ^ 100) (hu : 0 < u ∧ u < 2 ^ 100) (ha : 0 ≤ a ∧ a < 2 ^ 100) (hb : 0 ≤ b ∧ b < 2 ^ 100) (hq : 0 ≤ q ∧ q < 2 ^ 100) (hc : 0 ≤ c ∧ c < 2 ^ 100) (hd : 0 ≤ d ∧ d < 2 ^ 100) (hs : 0 < s ∧ s < 2 ^ 100) (he : 0 < e ∧ e < 2 ^ 100)
    {cs gs : List Int} {k t : Int} (hk : 0 ≤ k ∧ k < 2 ^ 100) (ht : 0 < t ∧ t < 2 ^ 1000) (hf : gs.length < fuel) :
    ∃ r gs' k', DNz fuel zc p u a b q c d s e [dat cs gs k, .int t] = .ok (.int r) [dat cs gs' k', .int t] ∧ 0 ≤ r ∧ r < t ∧ gs'.length ≤ gs.length ∧ k ≤ k' ∧ k' ≤ k + 1 := by
  have hlen : ∀ gs : List Int, (dropZ gs).length ≤ gs.length := by
    intro gs
    induction gs with
    | nil => exact Nat.le_refl _
    | cons x xs ih =>
      unfold dropZ
      split
      · rw [List.length_cons]; omega
      · exact Nat.le_refl _
  have hl := hlen gs
  have hw := while_next cs k [.int t, .none, .none, .none, .none] gs fuel hf
  generalize hz : dropZ gs = zs at hl hw
  cases zs with
  | cons x xs =>
    have e1 : eCB dInt (aCons (eBin dIx (eM 0 1) (eK (.int 0))) aNil) [dat cs (x :: xs) k, .int t, .none, .none, .none, .none] = .ok (.int x) [dat cs (x :: xs) k, .int t, .none, .none, .none, .none] := eInt_ok (eBin_ok (a := .list ((x :: xs).map .int)) (b := .int 0) rfl rfl (atI_zero _ _))
    have tt : t.natAbs < 2 ^ 4000 := by
      have h1 : t.natAbs < 2 ^ 1000 := by omega
      exact Nat.lt_of_lt_of_le h1 (Nat.pow_le_pow_right (by decide) (by decide))
    have e2 : eBin dDiv (eV 2) (eV 1) [dat cs (x :: xs) k, .int t, .int x, .none, .none, .none] = .ok (.int (x / t)) [dat cs (x :: xs) k, .int t, .int x, .none, .none, .none] := eBin_ok (a := .int x) (b := .int t) rfl rfl (dDiv_ok ht.1 tt)
    have e3 : eBin dMod (eV 2) (eV 1) [dat cs (x / t :: xs) k, .int t, .int x, .none, .none, .none] = .ok (.int (x % t)) [dat cs (x / t :: xs) k, .int t, .int x, .none, .none, .none] := eBin_ok (a := .int x) (b := .int t) rfl rfl (dMod_ok ht.1)
    have e4 : sPutG0 0 0 (eBin dDiv (eV 2) (eV 1)) [dat cs (x :: xs) k, .int t, .int x, .none, .none, .none] = .nx [dat cs (x / t :: xs) k, .int t, .int x, .none, .none, .none] := by
      unfold sPutG0
      rw [e2]
      show (match ixN (PyData.int x :: xs.map .int).length 0 with
        | some j => SR.nx (List.set [dat cs (x :: xs) k, .int t, .int x, .none, .none, .none] 0 (.tuple [.list (cs.map .int), .list (List.set (PyData.int x :: xs.map .int) j (.int (x / t))), .int k]))
        | none => .bad) = _
      rw [ix0]
      rfl
    refine ⟨x % t, x / t :: xs, k, ?_, Int.emod_nonneg _ (by omega), Int.emod_lt_of_pos _ ht.1, hl, Int.le_refl _, by omega⟩
    unfold DNz fnB
    have eb : ∀ g : MS, sSeq (sWhile DNw DNb fuel) (sSeq (sIf (eTst asB (eBin dNe (eM 0 1) (eLst aNil))) (sSeq (sSet 2 (eCB dInt (aCons (eBin dIx (eM 0 1) (eK (.int 0))) aNil))) (sSeq (sPutG0 0 0 (eBin dDiv (eV 2) (eV 1))) (sRet (eBin dMod (eV 2) (eV 1))))) sNil) g) ([dat cs gs k, .int t] ++ List.replicate 4 .none) = .rt (.int (x % t)) [dat cs (x / t :: xs) k, .int t, .int x, .none, .none, .none] := by
      intro g
      refine (sSeq_nx hw).trans (sSeq_rt ?_)
      refine (sIf_t (tNe_great cs (x :: xs) k _)).trans ?_
      refine (sSeq_nx (sSet_ok e1)).trans ?_
      exact (sSeq_nx e4).trans (sRet_ok e3)
    rw [eb]
    rfl
  | nil =>
    have k1 : Sm 101 (k + 1) := .of (by omega) (by have : (2 : Int) ^ 100 < 2 ^ 101 := by decide
                                                   omega)
    have e1 : eBin dAdd (eM 0 2) (eK (.int 1)) [dat cs [] k, .int t, .none, .none, .none, .none] = .ok (.int (k + 1)) [dat cs [] k, .int t, .none, .none, .none, .none] := eAdd_ok rfl rfl
    have e2 : sPutMi 0 2 (eV 3) [dat cs [] k, .int t, .none, .int (k + 1), .none, .none] = .nx [dat cs [] (k + 1), .int t, .none, .int (k + 1), .none, .none] := rfl
    obtain ⟨v, e3⟩ := cellz_ok zc cs (k + 1) [.int t, .none, .int (k + 1), .none, .none] (by omega) rfl
    have P : Sm 100 p := .of (by omega) hp.2
    have A := Sm.of ha.1 ha.2
    have B := Sm.of hb.1 hb.2
    have C := Sm.of hc.1 hc.2
    have Q := Sm.of hq.1 hq.2
    have Dd := Sm.of hd.1 hd.2
    have m1 : Sm 100 (v % p) := .mod hp.1 P
    have m2 : Sm 201 (a * (k + 1)) := A.mul k1
    have m3 : Sm 201 (b * (k + 1)) := B.mul k1
    have m4 : Sm 302 (b * (k + 1) * (k + 1)) := m3.mul k1
    have m5 : Sm 304 (v % p + a * (k + 1) + b * (k + 1) * (k + 1)) := ((m1.up (by decide)).add m2 |>.up (by decide : 202 ≤ 303)).add (m4.up (by decide))
    have e4 : eBin dMul (eCB dInt (aCons (eBin dAdd (eBin dAdd (eBin dMod (eCB dInt (aCons (eV 4) aNil)) (eK (.int p))) (eBin dMul (eK (.int a)) (eV 3))) (eBin dMul (eBin dMul (eK (.int b)) (eV 3)) (eV 3))) aNil)) (eK (.int q)) [dat cs [] (k + 1), .int t, .none, .int (k + 1), .int v, .none]
        = .ok (.int ((v % p + a * (k + 1) + b * (k + 1) * (k + 1)) * q)) [dat cs [] (k + 1), .int t, .none, .int (k + 1), .int v, .none] :=
      eMul_ok (eInt_ok (eAdd_ok (eAdd_ok (eMod_ok (eInt_ok rfl) rfl hp.1) (eMul_ok rfl rfl (A.up (by decide)) (k1.up (by decide)))) (eMul_ok (eMul_ok rfl rfl (B.up (by decide)) (k1.up (by decide))) rfl (m3.up (by decide)) (k1.up (by decide))))) rfl (m5.up (by decide)) (Q.up (by decide))
    generalize (v % p + a * (k + 1) + b * (k + 1) * (k + 1)) * q = y at e4
    have U : Sm 100 u := .of (by omega) hu.2
    have n1 : Sm 100 (y % u) := .mod hu.1 U
    have n2 : Sm 201 (c * (k + 1)) := C.mul k1
    have n3 : Sm 202 (y % u + c * (k + 1)) := (n1.up (by decide)).add n2
    have e5 : eBin dMul (eCB dInt (aCons (eBin dAdd (eBin dMod (eCB dInt (aCons (eV 5) aNil)) (eK (.int u))) (eBin dMul (eK (.int c)) (eV 3))) aNil)) (eK (.int d)) [dat cs [] (k + 1), .int t, .none, .int (k + 1), .int v, .int y]
        = .ok (.int ((y % u + c * (k + 1)) * d)) [dat cs [] (k + 1), .int t, .none, .int (k + 1), .int v, .int y] :=
      eMul_ok (eInt_ok (eAdd_ok (eMod_ok (eInt_ok rfl) rfl hu.1) (eMul_ok rfl rfl (C.up (by decide)) (k1.up (by decide))))) rfl (n3.up (by decide)) (Dd.up (by decide))
    generalize (y % u + c * (k + 1)) * d = z at e5
    have e6 : eBin dMod (eCB dInt (aCons (eBin dDiv (eBin dMod (eCB dInt (aCons (eV 5) aNil)) (eK (.int s))) (eK (.int e))) aNil)) (eV 1) [dat cs [] (k + 1), .int t, .none, .int (k + 1), .int v, .int z]
        = .ok (.int (z % s / e % t)) [dat cs [] (k + 1), .int t, .none, .int (k + 1), .int v, .int z] :=
      eMod_ok (eInt_ok (eDiv_ok (eMod_ok (eInt_ok rfl) rfl hs.1) rfl he.1 ((Sm.of (by omega) he.2).up (by decide)))) rfl ht.1
    refine ⟨z % s / e % t, [], k + 1, ?_, Int.emod_nonneg _ (by omega), Int.emod_lt_of_pos _ ht.1, Nat.zero_le _, by omega, Int.le_refl _⟩
    unfold DNz fnB
    have eb : ∀ f : MS, sSeq (sWhile DNw DNb fuel) (sSeq (sIf (eTst asB (eBin dNe (eM 0 1) (eLst aNil))) f sNil) (sSeq (sSet 3 (eBin dAdd (eM 0 2) (eK (.int 1)))) (sSeq (sPutMi 0 2 (eV 3)) (sSeq (sSet 4 (eIf (eTst asB (eBin dNe (eM 0 0) (eLst aNil))) (eBin dIx (eM 0 0) (eBin dMod (eCB dInt (aCons (eV 3) aNil)) (eCB dLen (aCons (eM 0 0) aNil)))) (eK (.int zc))))
        (sSeq (sSet 5 (eBin dMul (eCB dInt (aCons (eBin dAdd (eBin dAdd (eBin dMod (eCB dInt (aCons (eV 4) aNil)) (eK (.int p))) (eBin dMul (eK (.int a)) (eV 3))) (eBin dMul (eBin dMul (eK (.int b)) (eV 3)) (eV 3))) aNil)) (eK (.int q))))
        (sSeq (sSet 5 (eBin dMul (eCB dInt (aCons (eBin dAdd (eBin dMod (eCB dInt (aCons (eV 5) aNil)) (eK (.int u))) (eBin dMul (eK (.int c)) (eV 3))) aNil)) (eK (.int d))))
        (sRet (eBin dMod (eCB dInt (aCons (eBin dDiv (eBin dMod (eCB dInt (aCons (eV 5) aNil)) (eK (.int s))) (eK (.int e))) aNil)) (eV 1)))))))))
        ([dat cs gs k, .int t] ++ List.replicate 4 .none) = .rt (.int (z % s / e % t)) [dat cs [] (k + 1), .int t, .none, .int (k + 1), .int v, .int z] := by
      intro f
      refine (sSeq_nx hw).trans ?_
      refine (sSeq_nx (ρ' := [dat cs [] k, .int t, .none, .none, .none, .none]) (sIf_f (tNe_great cs [] k _))).trans ?_
      refine (sSeq_nx (sSet_ok e1)).trans ?_
      refine (sSeq_nx e2).trans ?_
      refine (sSeq_nx (sSet_ok e3)).trans ?_
      refine (sSeq_nx (sSet_ok e4)).trans ?_
      exact (sSeq_nx (sSet_ok e5)).trans (sRet_ok e6)
    rw [eb]
    rfl
theorem nextz_of {fuel : Nat} {zc p u a b q c d s e : Int} (hp : 0 < p ∧ p < 2 ^ 100) (hu : 0 < u ∧ u < 2 ^ 100) (ha : 0 ≤ a ∧ a < 2 ^ 100) (hb : 0 ≤ b ∧ b < 2 ^ 100) (hq : 0 ≤ q ∧ q < 2 ^ 100) (hc : 0 ≤ c ∧ c < 2 ^ 100) (hd : 0 ≤ d ∧ d < 2 ^ 100) (hs : 0 < s ∧ s < 2 ^ 100) (he : 0 < e ∧ e < 2 ^ 100) (hf : 63 < fuel) :
    NextOk (DNz fuel zc p u a b q c d s e) := by
  rintro n m t ⟨cs, gs, k, rfl, h1, h2, h3⟩ hn ht0 ht1
  have e90 : ((2 ^ 90 : Nat) : Int) = 2 ^ 90 := by simp
  have e9 : (2 : Int) ^ 90 ≤ 2 ^ 100 := by decide +kernel
  obtain ⟨r, gs', k', e1, r0, r1, g1, k1, k2⟩ := nextz_ok (fuel := fuel) (zc := zc) (cs := cs) (gs := gs) (k := k) (t := t) hp hu ha hb hq hc hd hs he ⟨h1, by omega⟩ ⟨ht0, ht1⟩ (by omega)
  exact ⟨r, _, e1, r0, r1, cs, gs', k', rfl, by omega, by omega, by omega⟩
def DBz : M PyData := fnB [false] 1 false (sRetQ (eCB dList (aCons (eV 0) aNil)) (eLc [1] (iV (eV 0)) (gN 1) (eTst asB (eBin dGe (eV 1) (eBin dPow (eK (.int 10)) (eK (.int 18))))) (eV 1)) 0)
theorem lcz_great (x0 : PyData) : ∀ (ns : List Int) (c : PyData), ∃ (gs : List Int) (c' : PyData), lcGo (gN 1) (eTst asB (eBin dGe (eV 1) (eBin dPow (eK (.int 10)) (eK (.int 18))))) (eV 1) (ns.map .int) [x0, c] = some (gs.map PyData.int, [x0, c']) ∧ gs.length ≤ ns.length
  | [], c => ⟨[], c, rfl, Nat.le_refl _⟩
  | n :: ns, c => by
    obtain ⟨gs, c', h, hl⟩ := lcz_great x0 ns (.int n)
    have e0 : eBin dGe (eV 1) (eBin dPow (eK (.int 10)) (eK (.int 18))) [x0, .int n] = .ok (.bool (decide (1000000000000000000 ≤ n))) [x0, .int n] :=
      eBin_ok (g := dGe) (fa := eV 1) (fb := eBin dPow (eK (.int 10)) (eK (.int 18))) (ρ := [x0, .int n]) (ρ1 := [x0, .int n]) (ρ2 := [x0, .int n]) (a := .int n) (b := .int 1000000000000000000) (r := .bool (decide (1000000000000000000 ≤ n))) rfl (eBin_ok (a := .int 10) (b := .int 18) rfl rfl ten18) rfl
    have e : eTst asB (eBin dGe (eV 1) (eBin dPow (eK (.int 10)) (eK (.int 18)))) [x0, .int n] = .ok (decide (1000000000000000000 ≤ n)) [x0, .int n] := by
      unfold eTst
      rw [e0]
      rfl
    have st : ∀ (ft : M Bool) (fe : M PyData), lcGo (gN 1) ft fe ((n :: ns).map .int) [x0, c] = (match ft [x0, .int n] with
      | .ok b ρ2 => if b = true then (match fe ρ2 with
          | .ok y ρ3 => (match lcGo (gN 1) ft fe (ns.map .int) ρ3 with
            | some (ys, ρ4) => some (y :: ys, ρ4)
            | none => none)
          | _ => none) else lcGo (gN 1) ft fe (ns.map .int) ρ2
      | _ => none) := fun ft fe => rfl
    rw [st, e]
    dsimp only
    by_cases hn : 1000000000000000000 ≤ n
    · refine ⟨n :: gs, c', ?_, by rw [List.length_cons, List.length_cons]; omega⟩
      rw [decide_eq_true hn, if_pos rfl]
      show (match lcGo (gN 1) (eTst asB (eBin dGe (eV 1) (eBin dPow (eK (.int 10)) (eK (.int 18))))) (eV 1) (ns.map .int) [x0, .int n] with
        | some (ys, ρ4) => some (PyData.int n :: ys, ρ4)
        | none => none) = _
      rw [h]
      rfl
    · refine ⟨gs, c', ?_, by rw [List.length_cons]; omega⟩
      rw [decide_eq_false hn, if_neg Bool.false_ne_true]
      exact h
theorem begunz_of (cs : List Int) (h : cs.length ≤ 63) : ∃ m, DBz [.list (cs.map .int)] = .ok m [.list (cs.map .int)] ∧ MOk 0 m := by
  obtain ⟨gs, c', hg, hl⟩ := lcz_great (.list (cs.map .int)) cs .none
  refine ⟨dat cs gs 0, ?_, cs, gs, 0, rfl, Int.le_refl _, Int.le_refl _, by omega⟩
  have hz : (gs.map PyData.int).length ≤ sizeLine := by
    rw [List.length_map]
    exact Nat.le_trans (Nat.le_trans hl (by omega : cs.length ≤ 1000)) (by decide)
  have e1 : eLc [1] (iV (eV 0)) (gN 1) (eTst asB (eBin dGe (eV 1) (eBin dPow (eK (.int 10)) (eK (.int 18))))) (eV 1) [.list (cs.map .int), .none] = .ok (.list (gs.map .int)) [.list (cs.map .int), .none] := by
    unfold eLc
    show (match lcGo (gN 1) (eTst asB (eBin dGe (eV 1) (eBin dPow (eK (.int 10)) (eK (.int 18))))) (eV 1) (cs.map .int) [.list (cs.map .int), .none] with
      | some (out, ρ2) => if out.length ≤ sizeLine then RS.ok (PyData.list out) (rst [PyData.list (cs.map .int), PyData.none] [1] ρ2) else .bad
      | none => .bad) = _
    rw [hg]
    dsimp only
    rw [if_pos hz]
    rfl
  have e2 : sRetQ (eCB dList (aCons (eV 0) aNil)) (eLc [1] (iV (eV 0)) (gN 1) (eTst asB (eBin dGe (eV 1) (eBin dPow (eK (.int 10)) (eK (.int 18))))) (eV 1)) 0 [.list (cs.map .int), .none] = .rt (dat cs gs 0) [.list (cs.map .int), .none] := by
    have e0 : eCB dList (aCons (eV 0) aNil) [.list (cs.map .int), .none] = .ok (.list (cs.map .int)) [.list (cs.map .int), .none] := rfl
    unfold sRetQ
    rw [e0]
    dsimp only
    rw [e1]
    rfl
  exact fnB_rt' (ρ' := [.list (cs.map .int), .none]) e2 rfl
end G

/-! G43: the sizes of parts, plain. -/
namespace SZ
/-- the last c of a row, all without a bound -/
def lastC (c : Option Nat) (l : List Nat) : List Nat := match c with
  | none => l
  | some c => l.drop (l.length - c)
def nx (c : Option Nat) (l : List Nat) : List Nat := l ++ [1 + (lastC c l).sum]
def row (c : Option Nat) : Nat → List Nat
  | 0 => [1]
  | n + 1 => nx c (row c n)
theorem row_len (c : Option Nat) : ∀ n, (row c n).length = n + 1
  | 0 => rfl
  | n + 1 => by
    show (row c n ++ [_]).length = _
    rw [List.length_append, row_len c n]; rfl
def a (c : Option Nat) (n : Nat) : Nat := (row c n).getD n 0
theorem a_zero (c : Option Nat) : a c 0 = 1 := rfl
theorem a_succ (c : Option Nat) (n : Nat) : a c (n + 1) = 1 + (lastC c (row c n)).sum := by
  show (row c n ++ [1 + (lastC c (row c n)).sum]).getD (n + 1) 0 = _
  rw [List.getD_eq_getElem?_getD, List.getElem?_append_right (by rw [row_len]; omega), row_len]
  simp
theorem row_succ (c : Option Nat) (n : Nat) : row c (n + 1) = row c n ++ [a c (n + 1)] := by
  rw [a_succ]; rfl
theorem row_map (c : Option Nat) : ∀ n, row c n = (List.range (n + 1)).map (a c)
  | 0 => rfl
  | n + 1 => by rw [row_succ, row_map c n, List.range_succ (n := n + 1), List.map_append]; rfl
theorem row_at (c : Option Nat) {n k : Nat} (h : k ≤ n) : (row c n).getD k 0 = a c k := by
  rw [row_map, List.getD_eq_getElem?_getD, List.getElem?_map, List.getElem?_range (by omega)]
  rfl
theorem sum_app (l m : List Nat) : (l ++ m).sum = l.sum + m.sum := by simp
theorem sum_drop (l : List Nat) (k : Nat) : (l.drop k).sum ≤ l.sum := by
  have := congrArg List.sum (List.take_append_drop k l)
  rw [sum_app] at this
  omega
theorem last_le (c : Option Nat) (l : List Nat) : (lastC c l).sum ≤ l.sum := by
  cases c with
  | none => exact Nat.le_refl _
  | some c => exact sum_drop _ _
theorem row_pos (c : Option Nat) : ∀ n, ∀ x ∈ row c n, 1 ≤ x
  | 0, x, h => by
    rcases List.mem_cons.mp h with rfl | h
    · exact Nat.le_refl _
    · cases h
  | n + 1, x, h => by
    rcases List.mem_append.mp h with h | h
    · exact row_pos c n x h
    · rw [List.mem_singleton] at h; omega
/-- those with a bound of two at least, or none -/
def Cok (c : Option Nat) : Prop := ∀ k, c = some k → 2 ≤ k
theorem a_two {c : Option Nat} (h : Cok c) (n : Nat) : 2 * a c n + 2 ≤ a c (n + 2) := by
  have h1 : a c (n + 2) = 1 + (lastC c (row c (n + 1))).sum := a_succ c (n + 1)
  have h2 : 1 + a c n ≤ a c (n + 1) := by
    rw [a_succ]
    cases c with
    | none =>
      show 1 + _ ≤ 1 + (row none n).sum
      cases n with
      | zero => decide
      | succ n => rw [row_succ, sum_app]; simp
    | some k =>
      have hk := h k rfl
      show 1 + _ ≤ 1 + ((row (some k) n).drop ((row (some k) n).length - k)).sum
      rw [row_len]
      cases n with
      | zero =>
        rw [show 0 + 1 - k = 0 by omega]; simp [row, a_zero]
      | succ n =>
        rw [row_succ, List.drop_append_of_le_length (by rw [row_len]; omega), sum_app]
        simp
  have h3 : a c n + a c (n + 1) ≤ (lastC c (row c (n + 1))).sum := by
    cases c with
    | none =>
      show _ ≤ (row none (n + 1)).sum
      rw [row_succ, sum_app]
      cases n with
      | zero => decide
      | succ n =>
        rw [row_succ, sum_app]; simp
    | some k =>
      have hk := h k rfl
      show _ ≤ ((row (some k) (n + 1)).drop ((row (some k) (n + 1)).length - k)).sum
      rw [row_len, row_succ, List.drop_append_of_le_length (by rw [row_len]; omega), sum_app]
      cases n with
      | zero =>
        rw [show 0 + 1 + 1 - k = 0 by omega]
        simp [row, a_zero]
      | succ n =>
        rw [row_succ, List.drop_append_of_le_length (by rw [row_len]; omega), sum_app]
        simp
  omega
theorem a_grow {c : Option Nat} (h : Cok c) : ∀ n, 3 * 2 ^ n ≤ a c (2 * n) + 2
  | 0 => by simp [a_zero]
  | n + 1 => by
    have h1 := a_grow h n
    have h2 := a_two h (2 * n)
    rw [Nat.pow_succ]
    show _ ≤ a c (2 * n + 2) + 2
    omega
theorem row_le (c : Option Nat) : ∀ n, (row c n).sum + 1 ≤ 2 ^ (n + 1)
  | 0 => by simp [row]
  | n + 1 => by
    have h1 := row_le c n
    have h2 := last_le c (row c n)
    rw [row_succ, sum_app, a_succ, Nat.pow_succ]
    simp
    omega
theorem a_le (c : Option Nat) (n : Nat) : a c n ≤ 2 ^ n := by
  cases n with
  | zero => simp [a_zero]
  | succ n =>
    have h1 := row_le c n
    have h2 := last_le c (row c n)
    rw [a_succ]
    omega
theorem a_big {c : Option Nat} (h : Cok c) : 10 ^ 30 + 1 ≤ a c 198 := by
  have := a_grow h 99
  rw [show 2 * 99 = 198 from rfl] at this
  have e : 10 ^ 30 + 3 ≤ 3 * 2 ^ 99 := by decide +kernel
  omega
/-- the first number of ticks that is enough -/
def Fst (c : Option Nat) (t n : Nat) : Prop := t ≤ a c n ∧ ∀ k, k < n → a c k < t
theorem Fst.uniq {c : Option Nat} {t m n : Nat} (h : Fst c t m) (g : Fst c t n) : m = n := by
  rcases Nat.lt_trichotomy m n with q | q | q
  · have := g.2 m q; have := h.1; omega
  · exact q
  · have := h.2 n q; have := g.1; omega
theorem Fst.le {c : Option Nat} (hc : Cok c) {t n : Nat} (ht : t ≤ 10 ^ 30 + 1) (h : Fst c t n) : n ≤ 198 := by
  rcases Nat.lt_or_ge 198 n with q | q
  · have := h.2 198 q; have := a_big hc; omega
  · exact q
theorem fst_of {c : Option Nat} {t : Nat} : ∀ (d n : Nat), (∀ k, k < n → a c k < t) → t ≤ a c (n + d) → ∃ m, Fst c t m
  | 0, n, h, h2 => ⟨n, h2, h⟩
  | d + 1, n, h, h2 => by
    by_cases q : t ≤ a c n
    · exact ⟨n, q, h⟩
    · refine fst_of d (n + 1) (fun k hk => ?_) (by rw [show n + 1 + d = n + (d + 1) by omega]; exact h2)
      rcases Nat.lt_or_ge k n with z | z
      · exact h k z
      · have : k = n := by omega
        subst this; omega
theorem fst_ex {c : Option Nat} (hc : Cok c) {t : Nat} (ht : t ≤ 10 ^ 30 + 1) : ∃ m, Fst c t m :=
  fst_of 198 0 (fun k h => absurd h (Nat.not_lt_zero k)) (by rw [Nat.zero_add]; exact Nat.le_trans ht (a_big hc))
/-! ### parts -/
def ev (p q r : Nat) : List Nat := (List.range p).map fun k => q + (if k < r then 1 else 0)
theorem ev_sum (q r : Nat) : ∀ p, r ≤ p → (ev p q r).sum = q * p + r
  | 0, h => by
    have : r = 0 := by omega
    subst this; simp [ev]
  | p + 1, h => by
    have e : ev (p + 1) q r = ev p q r ++ [q + (if p < r then 1 else 0)] := by
      unfold ev; rw [List.range_succ, List.map_append]; rfl
    rw [e, sum_app]
    by_cases hp : p < r
    · have : r = p + 1 := by omega
      subst this
      have e2 : ev p q (p + 1) = ev p q p := by
        unfold ev
        refine List.map_congr_left fun k hk => ?_
        rw [List.mem_range] at hk
        rw [if_pos (by omega), if_pos hk]
      rw [e2, ev_sum q p p (Nat.le_refl _), if_pos hp, Nat.mul_succ]
      simp; omega
    · rw [ev_sum q r p (by omega), if_neg hp, Nat.mul_succ]
      simp; omega
/-! ### halves -/
def hv : Nat → Nat → List Nat
  | 0, _ => []
  | f + 1, n => if n = 0 then [] else (n + 1) / 2 :: hv f (n / 2)
theorem hv_sum : ∀ f n, n < 2 ^ f → (hv f n).sum = n
  | 0, n, h => by
    have : n = 0 := by simpa using h
    subst this; rfl
  | f + 1, n, h => by
    unfold hv
    split
    · simp; omega
    · rw [Nat.pow_succ] at h
      rw [List.sum_cons, hv_sum f (n / 2) (by omega)]
      omega
theorem hv_len : ∀ f n, (hv f n).length ≤ f
  | 0, n => Nat.le_refl _
  | f + 1, n => by
    unfold hv
    split
    · exact Nat.zero_le _
    · rw [List.length_cons]; have := hv_len f (n / 2); omega
theorem hv_le : ∀ f n, ∀ x ∈ hv f n, x ≤ n
  | 0, n, x, h => by cases h
  | f + 1, n, x, h => by
    unfold hv at h
    split at h
    · cases h
    · rcases List.mem_cons.mp h with rfl | h
      · omega
      · have := hv_le f _ x h; omega
/-! ### best ones -/
def bs : List Nat → Nat → List Nat
  | [], _ => []
  | t :: ts, n => if n = 0 then [] else min t n :: bs ts (n - min t n)
theorem bs_zero : ∀ ts, bs ts 0 = []
  | [] => rfl
  | t :: ts => by unfold bs; rw [if_pos rfl]
theorem bs_sum : ∀ ts n, n ≤ ts.sum → (bs ts n).sum = n
  | [], n, h => by
    have : n = 0 := by simpa using h
    subst this; rfl
  | t :: ts, n, h => by
    unfold bs
    rw [List.sum_cons] at h
    split
    · simp; omega
    · rw [List.sum_cons, bs_sum ts _ (by omega)]; omega
theorem bs_len : ∀ ts n, (bs ts n).length ≤ ts.length
  | [], n => Nat.le_refl _
  | t :: ts, n => by
    unfold bs
    split
    · exact Nat.zero_le _
    · rw [List.length_cons, List.length_cons]; have := bs_len ts (n - min t n); omega
theorem bs_le : ∀ ts n, ∀ x ∈ bs ts n, x ≤ n
  | [], n, x, h => by cases h
  | t :: ts, n, x, h => by
    unfold bs at h
    split at h
    · cases h
    · rcases List.mem_cons.mp h with rfl | h
      · omega
      · have := bs_le ts _ x h; omega
/-- the row of best ones, from the greatest on -/
def bl (c : Option Nat) (n : Nat) : List Nat := ((row c n).take n).reverse
theorem bl_sum {c : Option Nat} {t n : Nat} (h : Fst c (t + 1) n) : t ≤ (bl c n).sum := by
  have h1 := h.1
  unfold bl
  rw [List.sum_reverse]
  cases n with
  | zero => rw [a_zero] at h1; omega
  | succ n =>
    have e : (row c (n + 1)).take (n + 1) = row c n := by
      rw [row_succ, List.take_append_of_le_length (by rw [row_len]; omega), List.take_of_length_le (by rw [row_len]; omega)]
    rw [e]
    have := last_le c (row c n)
    rw [a_succ] at h1
    omega
theorem bl_pos {c : Option Nat} {n : Nat} : ∀ x ∈ bl c n, 1 ≤ x := fun x h => row_pos c n x (List.mem_of_mem_take (List.mem_reverse.mp h))
theorem bl_len {c : Option Nat} {n : Nat} : (bl c n).length = n := by unfold bl; rw [List.length_reverse, List.length_take, row_len]; omega
/-! ### heaps -/
/-- so many, so many for each in turn -/
def fill (L : Nat) : Nat → Nat → List Nat
  | 0, _ => []
  | n + 1, r => min L r :: fill L n (r - min L r)
theorem fill_len (L : Nat) : ∀ n r, (fill L n r).length = n
  | 0, r => rfl
  | n + 1, r => by unfold fill; rw [List.length_cons, fill_len L n]
theorem fill_eq (L : Nat) : ∀ n r, fill L n r = (List.range n).map fun k => min (r - k * L) L
  | 0, r => rfl
  | n + 1, r => by
    unfold fill
    rw [List.range_succ_eq_map, List.map_cons, List.map_map, fill_eq L n]
    congr 1
    · omega
    · refine List.map_congr_left fun k _ => ?_
      show min (r - min L r - k * L) L = min (r - (k + 1) * L) L
      rw [Nat.add_mul]; omega
theorem fill_sum (L : Nat) : ∀ n r, r ≤ n * L → (fill L n r).sum = r
  | 0, r, h => by simp at h; subst h; rfl
  | n + 1, r, h => by
    rw [Nat.add_mul] at h
    unfold fill
    rw [List.sum_cons, fill_sum L n _ (by omega)]; omega
theorem fill_full (L : Nat) : ∀ n r, n * L ≤ r → fill L n r = List.replicate n L
  | 0, r, h => rfl
  | n + 1, r, h => by
    rw [Nat.add_mul] at h
    unfold fill
    rw [fill_full L n _ (by omega), List.replicate_succ, Nat.min_eq_left (by omega)]
theorem sum_up (s : Nat) : ∀ l : List Nat, (l.map fun x => s + x).sum = l.length * s + l.sum
  | [] => by simp
  | x :: l => by
    rw [List.map_cons, List.sum_cons, List.sum_cons, List.length_cons, sum_up s l, Nat.add_mul]
    omega
/-- the heaps by filling levels -/
def hp (n cnt : Nat) : Nat → Nat → Nat → List Nat
  | 0, L, s => (fill L n (cnt - n * s)).map fun x => s + x
  | f + 1, L, s => if n * s + n * L ≤ cnt then hp n cnt f (n * L) (s + L) else (fill L n (cnt - n * s)).map fun x => s + x
theorem hp_pow {n cnt f L : Nat} (hn : 2 ≤ n) (h : cnt < 2 ^ (f + 1) * L) : cnt < 2 ^ f * (n * L) := by
  rw [Nat.pow_succ, Nat.mul_assoc] at h
  exact Nat.lt_of_lt_of_le h (Nat.mul_le_mul_left _ (Nat.mul_le_mul_right L hn))
theorem hp_sum {n cnt : Nat} (hn : 2 ≤ n) : ∀ f L s, cnt < 2 ^ f * L → n * s ≤ cnt → (hp n cnt f L s).sum = cnt
  | 0, L, s, h, h2 => by
    have e : L ≤ n * L := Nat.le_mul_of_pos_left L (by omega)
    unfold hp
    rw [sum_up, fill_len, fill_sum L n _ (by omega)]
    omega
  | f + 1, L, s, h, h2 => by
    unfold hp
    split
    · rename_i q
      exact hp_sum hn f (n * L) (s + L) (hp_pow hn h) (by rw [Nat.mul_add]; exact q)
    · rw [sum_up, fill_len, fill_sum L n _ (by omega)]
      omega
theorem sum_pos (l : List Nat) : (l.filter fun x => decide (0 < x)).sum = l.sum := by
  induction l with
  | nil => rfl
  | cons x l ih =>
    rw [List.filter_cons]
    split
    · rw [List.sum_cons, List.sum_cons, ih]
    · rename_i q
      have : x = 0 := by simpa using q
      subst this
      rw [List.sum_cons, ih]; omega
theorem hp_len {n cnt : Nat} : ∀ f L s, (hp n cnt f L s).length = n
  | 0, L, s => by unfold hp; rw [List.length_map, fill_len]
  | f + 1, L, s => by
    unfold hp
    split
    · exact hp_len f _ _
    · rw [List.length_map, fill_len]
theorem mem_sum : ∀ {l : List Nat} {x : Nat}, x ∈ l → x ≤ l.sum
  | y :: l, x, h => by
    rw [List.sum_cons]
    rcases List.mem_cons.mp h with rfl | h
    · omega
    · have := mem_sum h; omega
end SZ

/-! G44: steps over natural numbers. -/
namespace G
open PySem PySem.Spec PyProof.Rows SP
open L2 hiding St Inv Binds
theorem appd_ok {i : Nat} {fe : M PyData} {ρ ρ1 : Ev} {d : PyData} {ds : List PyData} (h : fe ρ = .ok d ρ1) (h2 : ρ1[i]? = some (.list ds)) (h3 : ds.length < sizeLine) : eAppend i fe ρ = .ok .none (ρ1.set i (.list (ds ++ [d]))) := by
  unfold eAppend; rw [h]; dsimp only; rw [h2]; dsimp only; rw [if_pos h3]
theorem sz_small {n : Nat} (h : n ≤ 100000) : n < sizeLine := by rw [sizeLine_eq]; omega
theorem lN_append (a b : List Nat) : lN (a ++ b) = lN a ++ lN b := List.map_append ..
theorem lN_len (a : List Nat) : (lN a).length = a.length := List.length_map ..
theorem asInts_nat : ∀ l : List Nat, asInts (lN l) = some (l.map fun (k : Nat) => (k : Int))
  | [] => rfl
  | k :: l => by
    show (asInts (lN l)).map _ = _
    rw [asInts_nat l]; rfl
theorem sum_cast : ∀ l : List Nat, (l.map fun (k : Nat) => (k : Int)).sum = ((l.sum : Nat) : Int)
  | [] => rfl
  | k :: l => by
    rw [List.map_cons, List.sum_cons, List.sum_cons, sum_cast l]; omega
theorem dSum_nat (l : List Nat) : dSum [.list (lN l)] = some (.int ((l.sum : Nat) : Int)) := by
  show (asInts (lN l)).map _ = _
  rw [asInts_nat, Option.map_some, sum_cast]
theorem dMin_nat (a b : Nat) : dMin [.int (a : Int), .int (b : Int)] = some (.int ((min a b : Nat) : Int)) := by
  show some (PyData.int (if (b : Int) < (a : Int) then (b : Int) else (a : Int))) = _
  rw [Nat.min_def]
  split <;> split <;> first | rfl | omega
theorem dMax_nat (a b : Nat) : dMax [.int (a : Int), .int (b : Int)] = some (.int ((max a b : Nat) : Int)) := by
  show some (PyData.int (if (b : Int) > (a : Int) then (b : Int) else (a : Int))) = _
  rw [Nat.max_def]
  split <;> split <;> first | rfl | omega | exact congrArg (fun k : Nat => some (PyData.int (k : Int))) (by omega : a = b)
theorem dDiv_nat {a b : Nat} (h : 0 < b) (h2 : b < 2 ^ 4000) : dDiv (.int (a : Int)) (.int (b : Int)) = some (.int ((a / b : Nat) : Int)) := by
  rw [dDiv_ok (i := (a : Int)) (j := (b : Int)) (by omega) h2]; rfl
theorem dMod_nat {a b : Nat} (h : 0 < b) : dMod (.int (a : Int)) (.int (b : Int)) = some (.int ((a % b : Nat) : Int)) := by
  rw [dMod_ok (by omega)]; rfl
theorem dMul_nat {a b : Nat} (h : a < 2 ^ 4000) (h2 : b < 2 ^ 4000) : dMul (.int (a : Int)) (.int (b : Int)) = some (.int ((a * b : Nat) : Int)) := by
  rw [dMul_ok (i := (a : Int)) (j := (b : Int)) h h2]; rfl
theorem dSub_nat {a b : Nat} (h : b ≤ a) : dSub (.int (a : Int)) (.int (b : Int)) = some (.int ((a - b : Nat) : Int)) := by
  show some (PyData.int ((a : Int) - (b : Int))) = _
  rw [Int.ofNat_sub h]
theorem dAdd_nat (a b : Nat) : dAdd (.int (a : Int)) (.int (b : Int)) = some (.int ((a + b : Nat) : Int)) := rfl
theorem dLt_nat (a b : Nat) : dLt (.int (a : Int)) (.int (b : Int)) = some (.bool (decide (a < b))) := by
  show some (PyData.bool (decide ((a : Int) < (b : Int)))) = _
  rw [decide_eq_decide.mpr (by omega : (a : Int) < (b : Int) ↔ a < b)]
theorem dGt_nat (a b : Nat) : dGt (.int (a : Int)) (.int (b : Int)) = some (.bool (decide (b < a))) := by
  show some (PyData.bool (decide ((b : Int) < (a : Int)))) = _
  rw [decide_eq_decide.mpr (by omega : (b : Int) < (a : Int) ↔ b < a)]
theorem dLe_nat (a b : Nat) : dLe (.int (a : Int)) (.int (b : Int)) = some (.bool (decide (a ≤ b))) := by
  show some (PyData.bool (decide ((a : Int) ≤ (b : Int)))) = _
  rw [decide_eq_decide.mpr (by omega : (a : Int) ≤ (b : Int) ↔ a ≤ b)]
theorem dSlL_from (ds : List PyData) (k : Nat) : dSlL (.list ds) (some (k : Int)) none = some (.list (ds.drop k)) := by
  show some (PyData.list ((ds.drop (HT.sIx ds.length 0 (some (k : Int)))).take (HT.sIx ds.length ds.length none - HT.sIx ds.length 0 (some (k : Int))))) = _
  rw [HT.sIx_nat, HT.sIx_none]
  by_cases h : k ≤ ds.length
  · rw [Nat.min_eq_left h, List.take_of_length_le (by rw [List.length_drop]; exact Nat.le_refl _)]
  · rw [Nat.min_eq_right (by omega), List.drop_eq_nil_of_le (Nat.le_refl _), List.drop_eq_nil_of_le (by omega : ds.length ≤ k), List.take_nil]
theorem dSlL_but (ds : List PyData) : dSlL (.list ds) none (some (-1)) = some (.list (ds.take (ds.length - 1))) := by
  show some (PyData.list ((ds.drop (HT.sIx ds.length 0 none)).take (HT.sIx ds.length ds.length (some (-1)) - HT.sIx ds.length 0 none))) = _
  have e : HT.sIx ds.length ds.length (some (-1)) = ds.length - 1 := by
    have h := HT.clip_eq (-1) ds.length ds.length
    rw [if_pos (by decide)] at h
    omega
  rw [e, HT.sIx_none, List.drop_zero, Nat.sub_zero]
theorem dIxL_last (l : List Nat) (x : Nat) : dIx (.list (lN (l ++ [x]))) (.int (-1)) = some (.int (x : Int)) := by
  show atI _ _ = _
  unfold atI ixN
  rw [if_neg (by decide), lN_len, List.length_append, if_pos (by rw [List.length_singleton]; omega)]
  have e : (-1 + ((l.length + [x].length : Nat) : Int)).toNat = l.length := by rw [List.length_singleton]; omega
  rw [e]
  show (lN (l ++ [x]))[l.length]? = _
  rw [lN_append, List.getElem?_append_right (by rw [lN_len]; exact Nat.le_refl _), lN_len, Nat.sub_self]
  rfl
theorem dIx_lN {l : List Nat} {k : Nat} (h : k < l.length) : dIx (.list (lN l)) (.int (k : Int)) = some (.int ((l.getD k 0 : Nat) : Int)) := by
  rw [dIx_nat (by rw [lN_len]; exact h)]
  congr 1
  rw [List.getD_eq_getElem?_getD, List.getD_eq_getElem?_getD]
  unfold lN
  rw [List.getElem?_map, List.getElem?_eq_getElem h]
  rfl
theorem augs_ok {i : Nat} {g : PyData → PyData → Option PyData} {fe : M PyData} {ρ ρ' : Ev} {d e r : PyData} (h : fe ρ = .ok d ρ') (h2 : ρ[i]? = some e) (h3 : g e d = some r) : sAug i g fe ρ = .nx (ρ'.set i r) := by
  unfold sAug; rw [h]; dsimp only; rw [h2]; dsimp only; rw [h3]
theorem par_ok {i j : Nat} {fa : M (List PyData)} {ρ ρ' : Ev} {d e : PyData} (h : fa ρ = .ok [d, e] ρ') : sPar i j fa ρ = .nx ((ρ'.set i d).set j e) := by unfold sPar; rw [h]
theorem parO_ok {i j : Nat} {fa fb : M PyData} {ρ ρ1 ρ2 : Ev} {d e : PyData} (h : fa ρ = .ok d ρ1) (h2 : fb ρ1 = .ok e ρ2) : sParO i j fa fb ρ = .nx ((ρ2.set i d).set j e) := by unfold sParO; rw [h]; dsimp only; rw [h2]
theorem par3_ok {i j l : Nat} {fa fb fc : M PyData} {ρ ρ1 ρ2 ρ3 : Ev} {d e f : PyData} (h : fa ρ = .ok d ρ1) (h2 : fb ρ1 = .ok e ρ2) (h3 : fc ρ2 = .ok f ρ3) : sPar3 i j l fa fb fc ρ = .nx (((ρ3.set i d).set j e).set l f) := by unfold sPar3; rw [h]; dsimp only; rw [h2]; dsimp only; rw [h3]
theorem forGo_go {g : TD} {body : MS} {d : PyData} {ds : List PyData} {ρ ρ1 ρ2 : Ev} (h : g d ρ = some ρ1) (h2 : body ρ1 = .nx ρ2) : forGo g body (d :: ds) ρ = forGo g body ds ρ2 := by
  rw [forGo, h]; dsimp only; rw [h2]
theorem rngs_lN (lo n : Nat) : rngs (lo : Int) n = lN (List.range' lo n) := by
  induction n generalizing lo with
  | zero => rfl
  | succ n ih =>
    rw [rngs_succ, show ((lo : Int) + 1) = ((lo + 1 : Nat) : Int) from rfl, ih, List.range'_succ]; rfl
theorem dNe_same (x : Int) : dNe (.int x) (.int x) = some (.bool false) := by
  unfold dNe
  rw [if_pos ⟨okD_flat rfl, okD_flat rfl⟩, eqv_refl_flat rfl]
  rfl
theorem dEq_same (x : Int) : dEq (.int x) (.int x) = some (.bool true) := by rw [G.eq_int, beq_self_eq_true]
theorem nat_sml {n : Nat} (h : n < 10 ^ 100) : Sml (.int (n : Int)) := h
theorem nxt0 {D : M PyData} (N : NextOk D) {b : Nat} {m0 m : PyData} {r : Ev} {fa : M PyData} {t : Int} (hm : MOk b m) (hb : b < 2 ^ 90) (h0 : 0 < t) (h1 : t < 2 ^ 1000) (hf : fa (m0 :: r) = .ok (.int t) (m :: r)) : ∃ v m', eCall [some 0, none] (aIo (aCons fa aNil)) D (m0 :: r) = .ok (.int v) (m' :: r) ∧ 0 ≤ v ∧ v < t ∧ MOk (b + 1) m' := by
  obtain ⟨v, m', e, a, c, d⟩ := N b m t hm hb h0 h1
  exact ⟨v, m', eCall_k [.none, .int t] (ρ1 := m :: r) (es := [m', .int t]) (aIo_ok (a1_ok hf)) e rfl, a, c, d⟩
theorem nxt1 {D : M PyData} (N : NextOk D) {b : Nat} {x m0 m : PyData} {r : Ev} {fa : M PyData} {t : Int} (hm : MOk b m) (hb : b < 2 ^ 90) (h0 : 0 < t) (h1 : t < 2 ^ 1000) (hf : fa (x :: m0 :: r) = .ok (.int t) (x :: m :: r)) : ∃ v m', eCall [some 1, none] (aIo (aCons fa aNil)) D (x :: m0 :: r) = .ok (.int v) (x :: m' :: r) ∧ 0 ≤ v ∧ v < t ∧ MOk (b + 1) m' := by
  obtain ⟨v, m', e, a, c, d⟩ := N b m t hm hb h0 h1
  exact ⟨v, m', eCall_k [.none, .int t] (ρ1 := x :: m :: r) (es := [m', .int t]) (aIo_ok (a1_ok hf)) e rfl, a, c, d⟩
theorem lt_1000 {t : Int} (h : t ≤ 1000000000000000000000000000000) : t < 2 ^ 1000 := by
  have : (1000000000000000000000000000000 : Int) < 2 ^ 1000 := by decide +kernel
  omega
end G

set_option maxHeartbeats 8000000
namespace GL
open PySem PySem.Spec PyProof.Rows G
open L2 hiding St Inv Binds
def D_is_whole : M PyData := fnB [false, false, false] 0 false (sSeq (sIf (bOr (bNot (eTst asB (eUn (fun d => some (.bool (isT "int" d))) (eV 0)))) (bOr (eTst asB (eUn (fun d => some (.bool (isT "bool" d))) (eV 0))) (eTst asB (eBin dLt (eV 0) (eV 1))))) (sRet (eK (.bool false))) sNil) (sRet (eOr (eBin dIsN (eV 2) (eK .none)) (eBin dLe (eV 0) (eV 2)))))
def D_need_kind : M PyData := fnB [false] 0 false (sSeq (sIf (bOr (bNot (eTst asB (eUn (fun d => some (.bool (isT "tuple" d))) (eV 0)))) (bOr (eTst asB (eBin dEq (eV 0) (eTup aNil))) (bNot (eTst asB (eUn (fun d => some (.bool (isT "str" d))) (eBin dIx (eV 0) (eK (.int 0)))))))) sBad sNil) (sSeq (sIf (eTst asB (eBin dNotIn (eBin dIx (eV 0) (eK (.int 0))) (eTup (aCons (eK (.str "parts")) (aCons (eK (.str "half")) (aCons (eK (.str "best")) (aCons (eK (.str "heap")) aNil))))))) sBad sNil) (sSeq (sIf (eTst asB (eBin dEq (eBin dIx (eV 0) (eK (.int 0))) (eK (.str "half")))) (sIf (eTst asB (eBin dNe (eCB dLen (aCons (eV 0) aNil)) (eK (.int 1)))) sBad sNil) (sIf (bOr (eTst asB (eBin dNe (eCB dLen (aCons (eV 0) aNil)) (eK (.int 2)))) (bNot (eTst asB (eCall [none, none, none] (aCons (eBin dIx (eV 0) (eK (.int 1))) (aCons (eK (.int 2)) (aCons (eK (.int 8)) aNil))) D_is_whole)))) sBad sNil)) (sRet (eV 0)))))
def D_need_people : M PyData := fnB [false] 0 true (sIf (bNot (eTst asB (eCall [none, none, none] (aCons (eV 0) (aCons (eK (.int 1)) (aCons (eK (.int 1000000000000000000000000000000)) aNil))) D_is_whole))) sBad sNil)
def D_is_lot_of : M PyData := fnB [false, false] 3 false (sSeq (sIf (bOr (bNot (eTst asB (eUn (fun d => some (.bool (isT "tuple" d))) (eV 1)))) (eTst asB (eBin dGt (eCB dLen (aCons (eV 1) aNil)) (eK (.int 3))))) (sRet (eK (.bool false))) sNil) (sSeq (sIf (bNot (eTst asB (eCB dAll (aCons (eLc [2] (iV (eV 1)) (gN 2) tYesD (eCall [none, none, none] (aCons (eV 2) (aCons (eK (.int 1)) (aCons (eBin dSub (eV 0) (eK (.int 1))) aNil))) D_is_whole)) aNil)))) (sRet (eK (.bool false))) sNil) (sRet (eCB dAll (aCons (eLc [3, 4] (aft1 zip2 (aCons (eV 1) (aCons (eSl dSl (eV 1) (oSome (eK (.int 1))) oNone) aNil))) (gT 2 (gC (gN 3) (gC (gN 4) gNi))) tYesD (eBin dLt (eV 3) (eV 4))) aNil)))))
def D_is_lot : M PyData := fnB [false, false] 0 false (sSeq (sDrop (eCall [none] (aCons (eV 0) aNil) D_need_people)) (sRet (eCall [none, none] (aCons (eV 0) (aCons (eV 1) aNil)) D_is_lot_of)))
def D_need_calls : M PyData := fnB [false] 0 true (sIf (bAnd (eTst asB (eBin dNotN (eV 0) (eK .none))) (bNot (eTst asB (eCall [none, none, none] (aCons (eV 0) (aCons (eK (.int 2)) (aCons (eK (.int 8)) aNil))) D_is_whole)))) sBad sNil)
def D_row_told : M PyData := fnB [false, false] 2 false (sSeq (sSet 2 (eLst (aCons (eK (.int 1)) aNil))) (sSeq (sFor (aft1 rng2 (aCons (eK (.int 1)) (aCons (eBin dAdd (eV 1) (eK (.int 1))) aNil))) (gN 3) (sSeq (sDrop (eAppend 2 (eBin dAdd (eK (.int 1)) (eCB dSum (aCons (eIf (eTst asB (eBin dIsN (eV 0) (eK .none))) (eV 2) (eSl dSlL (eV 2) (oSome (eCB dMax (aCons (eK (.int 0)) (aCons (eBin dSub (eV 3) (eV 0)) aNil)))) oNone)) aNil))))) (sClr [3] sNil))) (sRet (eV 2))))
def D_most_told : M PyData := fnB [false, false] 0 false (sSeq (sDrop (eCall [none] (aCons (eV 0) aNil) D_need_calls)) (sSeq (sIf (bNot (eTst asB (eCall [none, none, none] (aCons (eV 1) (aCons (eK (.int 0)) (aCons (eK (.int 200)) aNil))) D_is_whole))) sBad sNil) (sRet (eBin dIx (eCall [none, none] (aCons (eV 0) (aCons (eV 1) aNil)) D_row_told) (eV 1)))))
def D_ticks_for : M PyData := fnB [false, false] 1 false (sSeq (sSet 2 (eLst (aCons (eK (.int 1)) aNil))) (sSeq (sWhile (eTst asB (eBin dLt (eBin dIx (eV 2) (eNeg (eK (.int 1)))) (eV 1))) (sDrop (eAppend 2 (eBin dAdd (eK (.int 1)) (eCB dSum (aCons (eIf (eTst asB (eBin dIsN (eV 0) (eK .none))) (eV 2) (eSl dSlL (eV 2) (oSome (eCB dMax (aCons (eK (.int 0)) (aCons (eBin dSub (eCB dLen (aCons (eV 2) aNil)) (eV 0)) aNil)))) oNone)) aNil))))) 100000000) (sRet (eV 2))))
def D_even_sizes : M PyData := fnB [false, false] 2 false (sSeq (sSet 2 (eCB dMin (aCons (eV 0) (aCons (eV 1) aNil)))) (sRet (eLc [3] (aft1 rng1 (aCons (eV 2) aNil)) (gN 3) tYesD (eBin dAdd (eBin dDiv (eV 1) (eV 2)) (eCB dInt (aCons (eBin dLt (eV 3) (eBin dMod (eCB dInt (aCons (eV 1) aNil)) (eV 2))) aNil))))))
def D_half_sizes : M PyData := fnB [false] 1 false (sSeq (sSet 1 (eLst aNil)) (sSeq (sWhile (eTst asB (eBin dGt (eV 0) (eK (.int 0)))) (sSeq (sDrop (eAppend 1 (eBin dDiv (eBin dAdd (eV 0) (eK (.int 1))) (eK (.int 2))))) (sSet 0 (eBin dDiv (eV 0) (eK (.int 2))))) 100000000) (sRet (eV 1))))
def D_best_sizes : M PyData := fnB [false, false] 3 false (sSeq (sParO 2 3 (eCall [none, none] (aCons (eV 0) (aCons (eBin dAdd (eV 1) (eK (.int 1))) aNil)) D_ticks_for) (eLst aNil)) (sSeq (sFor (iV (eUn dRevL (eSl dSlL (eV 2) oNone (oSome (eNeg (eK (.int 1))))))) (gN 4) (sSeq (sIf (eTst asB (eBin dGt (eV 1) (eK (.int 0)))) (sSeq (sDrop (eAppend 3 (eCB dMin (aCons (eV 4) (aCons (eV 1) aNil))))) (sAug 1 dSubI (eBin dIx (eV 3) (eNeg (eK (.int 1)))))) sNil) (sClr [4] sNil))) (sRet (eV 3))))
def D_heap_sizes : M PyData := fnB [false, false] 6 false (sSeq (sAsg (eTup (aCons (eK (.int 1)) (aCons (eK (.int 1)) aNil))) (gT 2 (gC (gN 2) (gC (gN 3) gNi)))) (sSeq (sWhile (eTst asB (eBin dLe (eBin dAdd (eV 3) (eBin dMul (eV 2) (eV 0))) (eBin dAdd (eV 1) (eK (.int 1))))) (sSeq (sAug 2 dMulI (eV 0)) (sAug 3 dAddI (eV 2))) 100000000) (sSeq (sParO 4 5 (eBin dSub (eBin dAdd (eV 1) (eK (.int 1))) (eV 3)) (eLst aNil)) (sSeq (sFor (aft1 rng1 (aCons (eV 0) aNil)) (gN 6) (sSeq (sDrop (eAppend 5 (eBin dAdd (eBin dDiv (eBin dSub (eV 3) (eK (.int 1))) (eV 0)) (eCB dMin (aCons (eCB dMax (aCons (eK (.int 0)) (aCons (eBin dSub (eV 4) (eBin dMul (eV 6) (eV 2))) aNil))) (aCons (eV 2) aNil)))))) (sClr [6] sNil))) (sRet (eLc [7] (iV (eV 5)) (gN 7) (eTst asB (eBin dGt (eV 7) (eK (.int 0)))) (eV 7)))))))
def D_sizes_of : M PyData := fnB [false, false] 0 false (sSeq (sIf (eTst asB (eBin dEq (eV 1) (eK (.int 0)))) (sRet (eLst aNil)) sNil) (sSeq (sIf (eTst asB (eBin dEq (eBin dIx (eV 0) (eK (.int 0))) (eK (.str "parts")))) (sRet (eCall [none, none] (aCons (eBin dIx (eV 0) (eK (.int 1))) (aCons (eV 1) aNil)) D_even_sizes)) sNil) (sSeq (sIf (eTst asB (eBin dEq (eBin dIx (eV 0) (eK (.int 0))) (eK (.str "half")))) (sRet (eCall [none] (aCons (eV 1) aNil) D_half_sizes)) sNil) (sRet (eIf (eTst asB (eBin dEq (eBin dIx (eV 0) (eK (.int 0))) (eK (.str "best")))) (eCall [none, none] (aCons (eBin dIx (eV 0) (eK (.int 1))) (aCons (eV 1) aNil)) D_best_sizes) (eCall [none, none] (aCons (eBin dIx (eV 0) (eK (.int 1))) (aCons (eV 1) aNil)) D_heap_sizes))))))
def D_sizes : M PyData := fnB [false, false] 0 false (sSeq (sDrop (eCall [none] (aCons (eV 0) aNil) D_need_kind)) (sSeq (sIf (bNot (eTst asB (eCall [none, none, none] (aCons (eV 1) (aCons (eK (.int 0)) (aCons (eK (.int 1000000000000000000000000000000)) aNil))) D_is_whole))) sBad sNil) (sRet (eCB dTup (aCons (eCall [none, none] (aCons (eV 0) (aCons (eV 1) aNil)) D_sizes_of) aNil)))))
def D_law_begun : M PyData := fnB [false] 1 false (sRetQ (eCB dList (aCons (eV 0) aNil)) (eLc [1] (iV (eV 0)) (gN 1) (eTst asB (eBin dGe (eV 1) (eBin dPow (eK (.int 10)) (eK (.int 18))))) (eV 1)) 0)
def D_law_next : M PyData := fnB [true, false] 4 false (sSeq (sWhile (bAnd (eTst asB (eBin dNe (eM 0 1) (eLst aNil))) (eTst asB (eBin dEq (eBin dIx (eM 0 1) (eK (.int 0))) (eK (.int 0))))) (sPutM 0 1 (eSl dSlL (eM 0 1) (oSome (eK (.int 1))) oNone)) 100000000) (sSeq (sIf (eTst asB (eBin dNe (eM 0 1) (eLst aNil))) (sSeq (sSet 2 (eCB dInt (aCons (eBin dIx (eM 0 1) (eK (.int 0))) aNil))) (sSeq (sPutG0 0 0 (eBin dDiv (eV 2) (eV 1))) (sRet (eBin dMod (eV 2) (eV 1))))) sNil) (sSeq (sSet 3 (eBin dAdd (eM 0 2) (eK (.int 1)))) (sSeq (sPutMi 0 2 (eV 3)) (sSeq (sSet 4 (eIf (eTst asB (eBin dNe (eM 0 0) (eLst aNil))) (eBin dIx (eM 0 0) (eBin dMod (eCB dInt (aCons (eV 3) aNil)) (eCB dLen (aCons (eM 0 0) aNil)))) (eK (.int 3)))) (sSeq (sSet 5 (eBin dMul (eCB dInt (aCons (eBin dAdd (eBin dAdd (eBin dMod (eCB dInt (aCons (eV 4) aNil)) (eK (.int 2147483629))) (eBin dMul (eK (.int 7919)) (eV 3))) (eBin dMul (eBin dMul (eK (.int 19)) (eV 3)) (eV 3))) aNil)) (eK (.int 48271)))) (sSeq (sSet 5 (eBin dMul (eCB dInt (aCons (eBin dAdd (eBin dMod (eCB dInt (aCons (eV 5) aNil)) (eK (.int 2147483647))) (eBin dMul (eK (.int 104729)) (eV 3))) aNil)) (eK (.int 69621)))) (sRet (eBin dMod (eCB dInt (aCons (eBin dDiv (eBin dMod (eCB dInt (aCons (eV 5) aNil)) (eK (.int 2147483587))) (eK (.int 11))) aNil)) (eV 1))))))))))
def D_law_kind : M PyData := fnB [true] 1 false (sSeq (sSet 1 (eBin dIx (eLst (aCons (eK (.str "parts")) (aCons (eK (.str "half")) (aCons (eK (.str "best")) (aCons (eK (.str "heap")) aNil))))) (eCall [some 0, none] (aIo (aCons (eK (.int 4)) aNil)) D_law_next))) (sRet (eIf (eTst asB (eBin dEq (eV 1) (eK (.str "half")))) (eTup (aCons (eV 1) aNil)) (eTup (aCons (eV 1) (aCons (eBin dAdd (eK (.int 2)) (eCall [some 0, none] (aIo (aCons (eBin dIx (eLst (aCons (eK (.int 2)) (aCons (eK (.int 7)) aNil))) (eCall [some 0, none] (aIo (aCons (eK (.int 2)) aNil)) D_law_next)) aNil)) D_law_next)) aNil))))))
def D_law_most_row : M PyData := fnB [false, false] 1 false (sSeq (sSet 2 (eLst (aCons (eK (.int 1)) aNil))) (sSeq (sWhile (eTst asB (eBin dLt (eBin dIx (eV 2) (eNeg (eK (.int 1)))) (eV 1))) (sDrop (eAppend 2 (eBin dAdd (eK (.int 1)) (eCB dSum (aCons (eIf (eTst asB (eBin dIsN (eV 0) (eK .none))) (eV 2) (eSl dSlL (eV 2) (oSome (eCB dMax (aCons (eK (.int 0)) (aCons (eBin dSub (eCB dLen (aCons (eV 2) aNil)) (eV 0)) aNil)))) oNone)) aNil))))) 100000000) (sRet (eV 2))))
def D_law_below : M PyData := fnB [false, false] 6 false (sSeq (sPar3 2 3 4 (eK (.int 1)) (eV 1) (eBin dMulL (eLst (aCons (eK (.int 0)) aNil)) (eV 0))) (sSeq (sWhile (eTst asB (eBin dGt (eV 3) (eK (.int 0)))) (sSeq (sFor (aft1 rng1 (aCons (eV 0) aNil)) (gN 5) (sSeq (sSet 6 (eCB dMin (aCons (eV 2) (aCons (eV 3) aNil)))) (sSeq (sAsg (eTup (aCons (eBin dAdd (eBin dIx (eV 4) (eV 5)) (eV 6)) (aCons (eBin dSub (eV 3) (eV 6)) aNil))) (gT 2 (gC (putLd 4 (eV 5)) (gC (gN 3) gNi)))) (sClr [5, 6] sNil)))) (sSet 2 (eBin dMul (eV 2) (eV 0)))) 100000000) (sRet (eLc [7] (iV (eV 4)) (gN 7) (eTst asB (eBin dGt (eV 7) (eK (.int 0)))) (eV 7)))))
def D_law_sizes : M PyData := fnB [false, false] 5 false (sSeq (sPar 2 3 (aCons (eLst aNil) (aCons (eV 1) aNil))) (sSeq (sIf (eTst asB (eBin dEq (eBin dIx (eV 0) (eK (.int 0))) (eK (.str "heap")))) (sRet (eCall [none, none] (aCons (eBin dIx (eV 0) (eK (.int 1))) (aCons (eV 1) aNil)) D_law_below)) sNil) (sSeq (sIf (eTst asB (eBin dEq (eBin dIx (eV 0) (eK (.int 0))) (eK (.str "parts")))) (sFor (aft1 rng1 (aCons (eCB dMin (aCons (eBin dIx (eV 0) (eK (.int 1))) (aCons (eV 1) aNil))) aNil)) (gN 4) (sSeq (sSet 5 (eBin dSub (eK (.int 0)) (eBin dDiv (eBin dSub (eK (.int 0)) (eV 3)) (eBin dSub (eCB dMin (aCons (eBin dIx (eV 0) (eK (.int 1))) (aCons (eV 1) aNil))) (eV 4))))) (sSeq (sPar 2 3 (aCons (eBin dAddL (eV 2) (eLst (aCons (eV 5) aNil))) (aCons (eBin dSub (eV 3) (eV 5)) aNil))) (sClr [4, 5] sNil)))) (sIf (eTst asB (eBin dEq (eBin dIx (eV 0) (eK (.int 0))) (eK (.str "half")))) (sWhile (eTst asB (eBin dGt (eV 3) (eK (.int 0)))) (sSeq (sSet 5 (eBin dSub (eV 3) (eBin dDiv (eV 3) (eK (.int 2))))) (sSeq (sPar 2 3 (aCons (eBin dAddL (eV 2) (eLst (aCons (eV 5) aNil))) (aCons (eBin dSub (eV 3) (eV 5)) aNil))) (sClr [5] sNil))) 100000000) (sFor (iV (eUn dRevL (eSl dSlL (eCall [none, none] (aCons (eBin dIx (eV 0) (eK (.int 1))) (aCons (eBin dAdd (eV 1) (eK (.int 1))) aNil)) D_law_most_row) oNone (oSome (eNeg (eK (.int 1))))))) (gN 6) (sSeq (sSet 5 (eCB dMin (aCons (eV 6) (aCons (eV 3) aNil)))) (sSeq (sPar 2 3 (aCons (eBin dAddL (eV 2) (eIf (eTst asB (eBin dGt (eV 5) (eK (.int 0)))) (eLst (aCons (eV 5) aNil)) (eLst aNil))) (aCons (eBin dSub (eV 3) (eV 5)) aNil))) (sClr [5, 6] sNil)))))) (sRet (eV 2)))))
def D_law_right : M PyData := fnB [true, false] 3 false (sSeq (sIf (eTst asB (eBin dNe (eCall [none] (aCons (eV 1) aNil) D_need_kind) (eV 1))) (sRet (eK (.bool false))) sNil) (sSeq (sSet 2 (eLst (aCons (eCall [some 0, none] (aIo (aCons (eK (.int 80)) aNil)) D_law_next) (aCons (eCall [some 0, none] (aIo (aCons (eBin dPow (eK (.int 10)) (eK (.int 6))) aNil)) D_law_next) (aCons (eBin dSub (eBin dPow (eK (.int 10)) (eK (.int 30))) (eCall [some 0, none] (aIo (aCons (eBin dPow (eK (.int 10)) (eK (.int 9))) aNil)) D_law_next)) (aCons (eCall [some 0, none] (aIo (aCons (eBin dPow (eK (.int 10)) (eK (.int 30))) aNil)) D_law_next) aNil)))))) (sSeq (sFor (iV (eBin dAddL (eV 2) (eLst (aCons (eK (.int 0)) (aCons (eK (.int 1)) (aCons (eK (.int 2)) (aCons (eIf (eTst asB (eBin dGt (eCB dLen (aCons (eV 1) aNil)) (eK (.int 1)))) (eBin dIx (eV 1) (eNeg (eK (.int 1)))) (eK (.int 3))) aNil))))))) (gN 3) (sSeq (sSet 4 (eCall [none, none] (aCons (eV 1) (aCons (eV 3) aNil)) D_law_sizes)) (sSeq (sIf (bOr (eTst asB (eBin dNe (eCB dRepr (aCons (eCall [none, none] (aCons (eV 1) (aCons (eV 3) aNil)) D_sizes) aNil)) (eCB dRepr (aCons (eCB dTup (aCons (eV 4) aNil)) aNil)))) (eTst asB (eBin dNe (eCB dSum (aCons (eV 4) aNil)) (eV 3)))) (sRet (eK (.bool false))) sNil) (sClr [3, 4] sNil)))) (sRet (eK (.bool true))))))
def D_law_most_right : M PyData := fnB [true, false] 3 false (sSeq (sSet 2 (eCall [none, none] (aCons (eV 1) (aCons (eBin dPow (eK (.int 10)) (eK (.int 30))) aNil)) D_law_most_row)) (sSeq (sSet 3 (eCall [some 0, none] (aIo (aCons (eCB dLen (aCons (eV 2) aNil)) aNil)) D_law_next)) (sSeq (sIf (eTst asB (eBin dNe (eCB dRepr (aCons (eCall [none, none] (aCons (eV 1) (aCons (eV 3) aNil)) D_most_told) aNil)) (eCB dRepr (aCons (eBin dIx (eV 2) (eV 3)) aNil)))) (sRet (eK (.bool false))) sNil) (sSeq (sSet 4 (eLst (aCons (eK (.int 1)) aNil))) (sSeq (sWhile (eTst asB (eBin dLt (eCB dLen (aCons (eV 4) aNil)) (eK (.int 201)))) (sDrop (eAppend 4 (eBin dAdd (eK (.int 1)) (eCB dSum (aCons (eIf (eTst asB (eBin dIsN (eV 1) (eK .none))) (eV 4) (eSl dSlL (eV 4) (oSome (eCB dMax (aCons (eK (.int 0)) (aCons (eBin dSub (eCB dLen (aCons (eV 4) aNil)) (eV 1)) aNil)))) oNone)) aNil))))) 100000000) (sRet (eAnd (eBin dEq (eCall [none, none] (aCons (eV 1) (aCons (eK (.int 200)) aNil)) D_most_told) (eBin dIx (eV 4) (eK (.int 200)))) (eBin dEq (eCall [none, none] (aCons (eV 1) (aCons (eK (.int 151)) aNil)) D_most_told) (eBin dIx (eV 4) (eK (.int 151)))))))))))
def D_law : M PyData := fnB [false] 3 false (sSeq (sSet 1 (eCall [none] (aCons (eV 0) aNil) D_law_begun)) (sSeq (sFor (aft1 rng1 (aCons (eBin dAdd (eK (.int 2)) (eCB dMin (aCons (eCB dLen (aCons (eV 0) aNil)) (aCons (eK (.int 6)) aNil)))) aNil)) (gN 2) (sSeq (sIf (bOr (bNot (eTst asB (eCall [some 1, none] (aIo (aCons (eCall [some 1] (aIo aNil) D_law_kind) aNil)) D_law_right))) (bNot (eTst asB (eCall [some 1, none] (aIo (aCons (eBin dAdd (eK (.int 2)) (eCall [some 1, none] (aIo (aCons (eK (.int 7)) aNil)) D_law_next)) aNil)) D_law_most_right)))) (sRet (eK (.bool false))) sNil) (sClr [2] sNil))) (sSeq (sFor (iV (eLst (aCons (eTup (aCons (eK (.str "half")) aNil)) (aCons (eTup (aCons (eK (.str "parts")) (aCons (eK (.int 2)) aNil))) (aCons (eTup (aCons (eK (.str "parts")) (aCons (eK (.int 8)) aNil))) (aCons (eTup (aCons (eK (.str "best")) (aCons (eK (.int 2)) aNil))) (aCons (eTup (aCons (eK (.str "best")) (aCons (eK (.int 8)) aNil))) (aCons (eTup (aCons (eK (.str "heap")) (aCons (eK (.int 2)) aNil))) (aCons (eTup (aCons (eK (.str "heap")) (aCons (eK (.int 8)) aNil))) aNil))))))))) (gN 3) (sSeq (sIf (bNot (eTst asB (eCall [some 1, none] (aIo (aCons (eV 3) aNil)) D_law_right))) (sRet (eK (.bool false))) sNil) (sClr [3] sNil))) (sSeq (sIf (bOr (bNot (eTst asB (eCall [some 1, none] (aIo (aCons (eK .none) aNil)) D_law_most_right))) (bOr (eTst asB (eBin dNe (eCall [none, none] (aCons (eTup (aCons (eK (.str "half")) aNil)) (aCons (eK (.int 7)) aNil)) D_sizes) (eTup (aCons (eK (.int 4)) (aCons (eK (.int 2)) (aCons (eK (.int 1)) aNil)))))) (eTst asB (eBin dNe (eCall [none, none] (aCons (eTup (aCons (eK (.str "best")) (aCons (eK (.int 2)) aNil))) (aCons (eK (.int 6)) aNil)) D_sizes) (eTup (aCons (eK (.int 4)) (aCons (eK (.int 2)) aNil))))))) (sRet (eK (.bool false))) sNil) (sRet (eAnd (eCall [none, none] (aCons (eK (.int 10)) (aCons (eTup aNil) aNil)) D_is_lot) (eAnd (eCall [none, none] (aCons (eK (.int 10)) (aCons (eTup (aCons (eK (.int 1)) (aCons (eK (.int 9)) aNil))) aNil)) D_is_lot) (eAnd (eNot (eCall [none, none] (aCons (eK (.int 10)) (aCons (eTup (aCons (eK (.int 10)) aNil)) aNil)) D_is_lot)) (eNot (eCall [none, none] (aCons (eK (.int 10)) (aCons (eTup (aCons (eK (.int 0)) aNil)) aNil)) D_is_lot))))))))))
end GL

namespace GL
open PySem PySem.Spec PyProof.Rows G
open L2 hiding St Inv Binds
def top (i : Nat) : Stmt := PySem.Challenge.pw_callsdown_k01_whole_shapes.main.body.getD i (.Pass ⟨0, 0, 0, 0⟩)
def d_is_whole : He.DefD := ⟨("is_whole", none), "is_whole", "is_whole", defArgs (top 13), defBody (top 13), defScope (top 13), [], []⟩
theorem sc_is_whole : FnScope ["thing", "least", "most"] ["thing", "least", "most"] d_is_whole.scope := ⟨rfl, rfl, rfl, by decide +kernel, rfl, by decide +kernel, by decide +kernel⟩
def d_need_kind : He.DefD := ⟨("need_kind", none), "need_kind", "need_kind", defArgs (top 14), defBody (top 14), defScope (top 14), [], []⟩
theorem sc_need_kind : FnScope ["thing"] ["thing"] d_need_kind.scope := ⟨rfl, rfl, rfl, by decide +kernel, rfl, by decide +kernel, by decide +kernel⟩
def d_need_people : He.DefD := ⟨("need_people", none), "need_people", "need_people", defArgs (top 15), defBody (top 15), defScope (top 15), [], []⟩
theorem sc_need_people : FnScope ["people"] ["people"] d_need_people.scope := ⟨rfl, rfl, rfl, by decide +kernel, rfl, by decide +kernel, by decide +kernel⟩
def d_is_lot_of : He.DefD := ⟨("is_lot_of", none), "is_lot_of", "is_lot_of", defArgs (top 16), defBody (top 16), defScope (top 16), [], []⟩
theorem sc_is_lot_of : FnScope ["people", "thing", "person", "one", "other"] ["people", "thing"] d_is_lot_of.scope := ⟨rfl, rfl, rfl, by decide +kernel, rfl, by decide +kernel, by decide +kernel⟩
def d_is_lot : He.DefD := ⟨("is_lot", none), "is_lot", "is_lot", defArgs (top 17), defBody (top 17), defScope (top 17), [], []⟩
theorem sc_is_lot : FnScope ["people", "value"] ["people", "value"] d_is_lot.scope := ⟨rfl, rfl, rfl, by decide +kernel, rfl, by decide +kernel, by decide +kernel⟩
def d_need_calls : He.DefD := ⟨("need_calls", none), "need_calls", "need_calls", defArgs (top 18), defBody (top 18), defScope (top 18), [], []⟩
theorem sc_need_calls : FnScope ["calls"] ["calls"] d_need_calls.scope := ⟨rfl, rfl, rfl, by decide +kernel, rfl, by decide +kernel, by decide +kernel⟩
def d_row_told : He.DefD := ⟨("row_told", none), "row_told", "row_told", defArgs (top 19), defBody (top 19), defScope (top 19), [], []⟩
theorem sc_row_told : FnScope ["calls", "ticks", "found", "tick"] ["calls", "ticks"] d_row_told.scope := ⟨rfl, rfl, rfl, by decide +kernel, rfl, by decide +kernel, by decide +kernel⟩
def d_most_told : He.DefD := ⟨("most_told", none), "most_told", "most_told", defArgs (top 20), defBody (top 20), defScope (top 20), [], []⟩
theorem sc_most_told : FnScope ["calls", "ticks"] ["calls", "ticks"] d_most_told.scope := ⟨rfl, rfl, rfl, by decide +kernel, rfl, by decide +kernel, by decide +kernel⟩
def d_ticks_for : He.DefD := ⟨("ticks_for", none), "ticks_for", "ticks_for", defArgs (top 21), defBody (top 21), defScope (top 21), [], []⟩
theorem sc_ticks_for : FnScope ["calls", "people", "found"] ["calls", "people"] d_ticks_for.scope := ⟨rfl, rfl, rfl, by decide +kernel, rfl, by decide +kernel, by decide +kernel⟩
def d_even_sizes : He.DefD := ⟨("even_sizes", none), "even_sizes", "even_sizes", defArgs (top 22), defBody (top 22), defScope (top 22), [], []⟩
theorem sc_even_sizes : FnScope ["number", "count", "parts", "place"] ["number", "count"] d_even_sizes.scope := ⟨rfl, rfl, rfl, by decide +kernel, rfl, by decide +kernel, by decide +kernel⟩
def d_half_sizes : He.DefD := ⟨("half_sizes", none), "half_sizes", "half_sizes", defArgs (top 23), defBody (top 23), defScope (top 23), [], []⟩
theorem sc_half_sizes : FnScope ["count", "found"] ["count"] d_half_sizes.scope := ⟨rfl, rfl, rfl, by decide +kernel, rfl, by decide +kernel, by decide +kernel⟩
def d_best_sizes : He.DefD := ⟨("best_sizes", none), "best_sizes", "best_sizes", defArgs (top 24), defBody (top 24), defScope (top 24), [], []⟩
theorem sc_best_sizes : FnScope ["calls", "count", "row", "found", "told"] ["calls", "count"] d_best_sizes.scope := ⟨rfl, rfl, rfl, by decide +kernel, rfl, by decide +kernel, by decide +kernel⟩
def d_heap_sizes : He.DefD := ⟨("heap_sizes", none), "heap_sizes", "heap_sizes", defArgs (top 25), defBody (top 25), defScope (top 25), [], []⟩
theorem sc_heap_sizes : FnScope ["number", "count", "level", "whole", "left", "found", "place", "one"] ["number", "count"] d_heap_sizes.scope := ⟨rfl, rfl, rfl, by decide +kernel, rfl, by decide +kernel, by decide +kernel⟩
def d_sizes_of : He.DefD := ⟨("sizes_of", none), "sizes_of", "sizes_of", defArgs (top 26), defBody (top 26), defScope (top 26), [], []⟩
theorem sc_sizes_of : FnScope ["kind", "count"] ["kind", "count"] d_sizes_of.scope := ⟨rfl, rfl, rfl, by decide +kernel, rfl, by decide +kernel, by decide +kernel⟩
def d_sizes : He.DefD := ⟨("sizes", none), "sizes", "sizes", defArgs (top 27), defBody (top 27), defScope (top 27), [], []⟩
theorem sc_sizes : FnScope ["kind", "count"] ["kind", "count"] d_sizes.scope := ⟨rfl, rfl, rfl, by decide +kernel, rfl, by decide +kernel, by decide +kernel⟩
def d_law_begun : He.DefD := ⟨("_law_begun", none), "_law_begun", "_law_begun", defArgs (top 29), defBody (top 29), defScope (top 29), [], []⟩
theorem sc_law_begun : FnScope ["script", "cell"] ["script"] d_law_begun.scope := ⟨rfl, rfl, rfl, by decide +kernel, rfl, by decide +kernel, by decide +kernel⟩
def d_law_next : He.DefD := ⟨("_law_next", none), "_law_next", "_law_next", defArgs (top 30), defBody (top 30), defScope (top 30), [], []⟩
theorem sc_law_next : FnScope ["m", "total", "rest", "k", "cell", "mixed"] ["m", "total"] d_law_next.scope := ⟨rfl, rfl, rfl, by decide +kernel, rfl, by decide +kernel, by decide +kernel⟩
def d_law_kind : He.DefD := ⟨("_law_kind", none), "_law_kind", "_law_kind", defArgs (top 31), defBody (top 31), defScope (top 31), [], []⟩
theorem sc_law_kind : FnScope ["m", "word"] ["m"] d_law_kind.scope := ⟨rfl, rfl, rfl, by decide +kernel, rfl, by decide +kernel, by decide +kernel⟩
def d_law_most_row : He.DefD := ⟨("_law_most_row", none), "_law_most_row", "_law_most_row", defArgs (top 32), defBody (top 32), defScope (top 32), [], []⟩
theorem sc_law_most_row : FnScope ["calls", "total", "row"] ["calls", "total"] d_law_most_row.scope := ⟨rfl, rfl, rfl, by decide +kernel, rfl, by decide +kernel, by decide +kernel⟩
def d_law_below : He.DefD := ⟨("_law_below", none), "_law_below", "_law_below", defArgs (top 33), defBody (top 33), defScope (top 33), [], []⟩
theorem sc_law_below : FnScope ["number", "count", "level", "rest", "found", "k", "more", "one"] ["number", "count"] d_law_below.scope := ⟨rfl, rfl, rfl, by decide +kernel, rfl, by decide +kernel, by decide +kernel⟩
def d_law_sizes : He.DefD := ⟨("_law_sizes", none), "_law_sizes", "_law_sizes", defArgs (top 34), defBody (top 34), defScope (top 34), [], []⟩
theorem sc_law_sizes : FnScope ["kind", "count", "found", "left", "k", "size", "told"] ["kind", "count"] d_law_sizes.scope := ⟨rfl, rfl, rfl, by decide +kernel, rfl, by decide +kernel, by decide +kernel⟩
def d_law_right : He.DefD := ⟨("_law_right", none), "_law_right", "_law_right", defArgs (top 35), defBody (top 35), defScope (top 35), [], []⟩
theorem sc_law_right : FnScope ["m", "kind", "counts", "count", "due"] ["m", "kind"] d_law_right.scope := ⟨rfl, rfl, rfl, by decide +kernel, rfl, by decide +kernel, by decide +kernel⟩
def d_law_most_right : He.DefD := ⟨("_law_most_right", none), "_law_most_right", "_law_most_right", defArgs (top 36), defBody (top 36), defScope (top 36), [], []⟩
theorem sc_law_most_right : FnScope ["m", "calls", "row", "ticks", "long"] ["m", "calls"] d_law_most_right.scope := ⟨rfl, rfl, rfl, by decide +kernel, rfl, by decide +kernel, by decide +kernel⟩
def d_law : He.DefD := ⟨("law", none), "law", "law", defArgs (top 37), defBody (top 37), defScope (top 37), [], []⟩
theorem sc_law : FnScope ["script", "m", "turn", "kind"] ["script"] d_law.scope := ⟨rfl, rfl, rfl, by decide +kernel, rfl, by decide +kernel, by decide +kernel⟩
def hfa : List He.Fa := [.free "isinstance", .free "int", .free "bool", .free "tuple", .free "str", .str "HEAP" "heap", .str "BEST" "best", .str "HALF" "half", .str "PARTS" "parts", .free "len", .int "MOST_NUMBER" 8, .int "LEAST_NUMBER" 2, .int "MOST_PEOPLE" 1000000000000000000000000000000, .int "MOST_LOT" 3, .free "all", .free "zip", .free "range", .free "max", .free "sum", .int "MOST_TICKS" 200, .free "min", .free "list", .free "repr", .glo "is_whole", .glo "need_kind", .glo "need_people", .glo "is_lot_of", .glo "is_lot", .glo "need_calls", .glo "row_told", .glo "most_told", .glo "ticks_for", .glo "even_sizes", .glo "half_sizes", .glo "best_sizes", .glo "heap_sizes", .glo "sizes_of", .glo "sizes", .glo "_law_begun", .glo "_law_next", .glo "_law_kind", .glo "_law_most_row", .glo "_law_below", .glo "_law_sizes", .glo "_law_right", .glo "_law_most_right", .glo "law"]
def hfn : List He.DefD := [d_is_whole, d_need_kind, d_need_people, d_is_lot_of, d_is_lot, d_need_calls, d_row_told, d_most_told, d_ticks_for, d_even_sizes, d_half_sizes, d_best_sizes, d_heap_sizes, d_sizes_of, d_sizes, d_law_begun, d_law_next, d_law_kind, d_law_most_row, d_law_below, d_law_sizes, d_law_right, d_law_most_right, d_law]
theorem fg_is_whole {P : Program} {w : World} {K : PySem.W.Frag} {mg : Str → Option Value} {base : Heap} (h : Hd hfa hfn K mg) {f : Addr} {fd : FuncData} {dvs : List V} {kws : List (Str × V)} (F : FunD K d_is_whole.name d_is_whole.qual d_is_whole.params d_is_whole.body d_is_whole.scope dvs kws f fd) :
    FnG P w K mg base (L2.CX P w) 1 f fd ["thing", "least", "most"] (spG K mg [none, none, none] .sh D_is_whole) := by
  refine fnB_ok (N := ["thing", "least", "most"]) (ps := ["thing", "least", "most"]) (ks := [none, none, none]) (m := 0) F sc_is_whole rfl rfl (fun z => nomatch z) rfl fun cdv A outer s H vs E hv cx po => ?_
  let X : Cx := cxOf (L2.CX P w) P w K mg base ["thing", "least", "most"] d_is_whole.qual d_is_whole.scope f cdv A outer s H E
  have hN : (["thing", "least", "most"] : List Str).Nodup := sc_is_whole.nd
  match vs, hv with
  | [v0, v1, v2], _ =>
    refine ⟨[.no, .no, .no], Wk.refl _, ?_⟩
    let J : Jx := ⟨[.no, .no, .no], .sh, [.no, .no, .no], fun cls d _ H => E cls d H, [], []⟩
    show QSs X J [.sh, .sh, .sh] _ _ _
    refine qss_cons (κ1 := [.sh, .sh, .sh]) (qs_if (X := X) (J := J) (f := (sRet (eK (.bool false)))) (g := sNil) (qt_w (X := X) (qw_or (X := X) (qt_not (X := X) (qt_val (X := X) (qe_isa (X := X) (n := "int") (by decide) (by rfl) (h.free 0 rfl) (by rfl) (h.free 1 rfl) b_int (qe_v (X := X) 0 (by rfl) (pv 0))))) (qw_or (X := X) (qt_val (X := X) (qe_isa (X := X) (n := "bool") (by decide) (by rfl) (h.free 0 rfl) (by rfl) (h.free 2 rfl) b_bool (qe_v (X := X) 0 (by rfl) (pv 0)))) (qw_or1 (X := X) (qt_cmp (X := X) (od_lt cx.u64) (qe_v (X := X) 0 (by rfl) (pv 0)) (qe_v (X := X) 1 (by rfl) (pv 1)) (nomark _)))))) ?_ ?_ (.drop (.drop (.drop .nil)))) ?_
    · refine qss_one (qs_ret (X := X) (J := J) qe_bl (.drop (.drop (.drop .nil))) (.drop (.drop (.drop .nil))))
    · exact qss_nil
    refine qss_one (qs_ret (X := X) (J := J) (qe_or (X := X) (qe_cmp (X := X) od_isN (qe_v (X := X) 2 (by rfl) (pv 2)) qe_non (nomark _)) (qe_one (X := X) (qe_cmp (X := X) (od_le cx.u64) (qe_v (X := X) 0 (by rfl) (pv 0)) (qe_v (X := X) 2 (by rfl) (pv 2)) (nomark _)))) (.drop (.drop (.drop .nil))) (.drop (.drop (.drop .nil))))
theorem ok_is_whole {P : Program} {w : World} {K : PySem.W.Frag} {mg : Str → Option Value} {base : Heap} (h : Hd hfa hfn K mg) : GFn P w K mg base "is_whole" 1 [none, none, none] .sh D_is_whole := by
  obtain ⟨fd, F⟩ := h.def_ 0 (d := d_is_whole) rfl
  exact ⟨⟨_, fd, ["thing", "least", "most"], h.glo 23 rfl, F.kp, F.bindsN fun _ _ _ _ _ _ us hl => match us, hl with | [_, _, _], _ => rfl, fg_is_whole h F⟩⟩
theorem fg_need_kind {P : Program} {w : World} {K : PySem.W.Frag} {mg : Str → Option Value} {base : Heap} (h : Hd hfa hfn K mg) {f : Addr} {fd : FuncData} {dvs : List V} {kws : List (Str × V)} (F : FunD K d_need_kind.name d_need_kind.qual d_need_kind.params d_need_kind.body d_need_kind.scope dvs kws f fd) :
    FnG P w K mg base (L2.CX P w) 2 f fd ["thing"] (spG K mg [none] .sh D_need_kind) := by
  refine fnB_ok (N := ["thing"]) (ps := ["thing"]) (ks := [none]) (m := 0) F sc_need_kind rfl rfl (fun z => nomatch z) rfl fun cdv A outer s H vs E hv cx po => ?_
  let X : Cx := cxOf (L2.CX P w) P w K mg base ["thing"] d_need_kind.qual d_need_kind.scope f cdv A outer s H E
  have hN : (["thing"] : List Str).Nodup := sc_need_kind.nd
  match vs, hv with
  | [v0], _ =>
    refine ⟨[.no], Wk.refl _, ?_⟩
    let J : Jx := ⟨[.no], .sh, [.no], fun cls d _ H => E cls d H, [], []⟩
    show QSs X J [.sh] _ _ _
    refine qss_cons (κ1 := [.sh]) (qs_if (X := X) (J := J) (f := sBad) (g := sNil) (qt_w (X := X) (qw_or (X := X) (qt_not (X := X) (qt_val (X := X) (qe_isa (X := X) (n := "tuple") (by decide) (by rfl) (h.free 0 rfl) (by rfl) (h.free 3 rfl) b_tuple (qe_v (X := X) 0 (by rfl) (pv 0))))) (qw_or (X := X) (qt_cmp (X := X) (od_eq cx.u64) (qe_v (X := X) 0 (by rfl) (pv 0)) (qe_tup (X := X) qa_nil) (nomark _)) (qw_or1 (X := X) (qt_not (X := X) (qt_val (X := X) (qe_isa (X := X) (n := "str") (by decide) (by rfl) (h.free 0 rfl) (by rfl) (h.free 4 rfl) b_str (qe_ix (X := X) ixd (qe_v (X := X) 0 (by rfl) (pv 0)) qe_int (fun _ _ => (by rfl)))))))))) ?_ ?_ (.drop .nil)) ?_
    · refine qss_one qs_bad
    · exact qss_nil
    refine qss_cons (κ1 := [.sh]) (qs_if (X := X) (J := J) (f := sBad) (g := sNil) (qt_cmp (X := X) (od_notIn cx.u65) (qe_ix (X := X) ixd (qe_v (X := X) 0 (by rfl) (pv 0)) qe_int (fun _ _ => (by rfl))) (qe_tup (X := X) (qa_cons (X := X) (qe_gstr (X := X) (by rfl) (h.str_ 8 rfl)) (qa_cons (X := X) (qe_gstr (X := X) (by rfl) (h.str_ 7 rfl)) (qa_cons (X := X) (qe_gstr (X := X) (by rfl) (h.str_ 6 rfl)) (qa_cons (X := X) (qe_gstr (X := X) (by rfl) (h.str_ 5 rfl)) qa_nil))))) (by rfl)) ?_ ?_ (.drop .nil)) ?_
    · refine qss_one qs_bad
    · exact qss_nil
    refine qss_cons (κ1 := [.sh]) (qs_if (X := X) (J := J) (f := (sIf (eTst asB (eBin dNe (eCB dLen (aCons (eV 0) aNil)) (eK (.int 1)))) sBad sNil)) (g := (sIf (bOr (eTst asB (eBin dNe (eCB dLen (aCons (eV 0) aNil)) (eK (.int 2)))) (bNot (eTst asB (eCall [none, none, none] (aCons (eBin dIx (eV 0) (eK (.int 1))) (aCons (eK (.int 2)) (aCons (eK (.int 8)) aNil))) D_is_whole)))) sBad sNil)) (qt_cmp (X := X) (od_eq cx.u64) (qe_ix (X := X) ixd (qe_v (X := X) 0 (by rfl) (pv 0)) qe_int (fun _ _ => (by rfl))) (qe_gstr (X := X) (by rfl) (h.str_ 7 rfl)) (nomark _)) ?_ ?_ (.drop .nil)) ?_
    · refine qss_one (qs_if (X := X) (J := J) (f := sBad) (g := sNil) (qt_cmp (X := X) (od_ne cx.u64) (qe_callB (X := X) (cd_len) (by rfl) (h.free 9 rfl) b_len (qa_cons (X := X) (qe_v (X := X) 0 (by rfl) (pv 0)) qa_nil)) qe_int (nomark _)) ?_ ?_ (.drop .nil))
      · refine qss_one qs_bad
      · exact qss_nil
    · refine qss_one (qs_if (X := X) (J := J) (f := sBad) (g := sNil) (qt_w (X := X) (qw_or (X := X) (qt_cmp (X := X) (od_ne cx.u64) (qe_callB (X := X) (cd_len) (by rfl) (h.free 9 rfl) b_len (qa_cons (X := X) (qe_v (X := X) 0 (by rfl) (pv 0)) qa_nil)) qe_int (nomark _)) (qw_or1 (X := X) (qt_not (X := X) (qt_val (X := X) (qe_callF (X := X) cx (ok_is_whole h) (by decide) (by rfl) (qp_sh (X := X) (qe_ix (X := X) ixd (qe_v (X := X) 0 (by rfl) (pv 0)) qe_int (fun _ _ => (by rfl))) (qp_sh (X := X) (qe_gint (X := X) (by rfl) (h.int_ 11 rfl)) (qp_sh (X := X) (qe_gint (X := X) (by rfl) (h.int_ 10 rfl)) qp_nil))) (noTwice_of (by decide)))))))) ?_ ?_ (.drop .nil))
      · refine qss_one qs_bad
      · exact qss_nil
    refine qss_one (qs_ret (X := X) (J := J) (qe_v (X := X) 0 (by rfl) (pv 0)) (.drop .nil) (.drop .nil))
theorem ok_need_kind {P : Program} {w : World} {K : PySem.W.Frag} {mg : Str → Option Value} {base : Heap} (h : Hd hfa hfn K mg) : GFn P w K mg base "need_kind" 2 [none] .sh D_need_kind := by
  obtain ⟨fd, F⟩ := h.def_ 1 (d := d_need_kind) rfl
  exact ⟨⟨_, fd, ["thing"], h.glo 24 rfl, F.kp, F.bindsN fun _ _ _ _ _ _ us hl => match us, hl with | [_], _ => rfl, fg_need_kind h F⟩⟩
theorem fg_need_people {P : Program} {w : World} {K : PySem.W.Frag} {mg : Str → Option Value} {base : Heap} (h : Hd hfa hfn K mg) {f : Addr} {fd : FuncData} {dvs : List V} {kws : List (Str × V)} (F : FunD K d_need_people.name d_need_people.qual d_need_people.params d_need_people.body d_need_people.scope dvs kws f fd) :
    FnG P w K mg base (L2.CX P w) 2 f fd ["people"] (spG K mg [none] .sh D_need_people) := by
  refine fnB_ok (N := ["people"]) (ps := ["people"]) (ks := [none]) (m := 0) F sc_need_people rfl rfl (fun _ => rfl) rfl fun cdv A outer s H vs E hv cx po => ?_
  let X : Cx := cxOf (L2.CX P w) P w K mg base ["people"] d_need_people.qual d_need_people.scope f cdv A outer s H E
  have hN : (["people"] : List Str).Nodup := sc_need_people.nd
  match vs, hv with
  | [v0], _ =>
    refine ⟨[.sh], (.drop .nil), ?_⟩
    let J : Jx := ⟨[.no], .sh, [.no], fun cls d _ H => E cls d H, [], []⟩
    show QSs X J [.sh] _ _ _
    refine qss_one (qs_if (X := X) (J := J) (f := sBad) (g := sNil) (qt_not (X := X) (qt_val (X := X) (qe_callF (X := X) cx (ok_is_whole h) (by decide) (by rfl) (qp_sh (X := X) (qe_v (X := X) 0 (by rfl) (pv 0)) (qp_sh (X := X) qe_int (qp_sh (X := X) (qe_gint (X := X) (by rfl) (h.int_ 12 rfl)) qp_nil))) (noTwice_of (by decide))))) ?_ ?_ (.drop .nil))
    · refine qss_one qs_bad
    · exact qss_nil
theorem ok_need_people {P : Program} {w : World} {K : PySem.W.Frag} {mg : Str → Option Value} {base : Heap} (h : Hd hfa hfn K mg) : GFn P w K mg base "need_people" 2 [none] .sh D_need_people := by
  obtain ⟨fd, F⟩ := h.def_ 2 (d := d_need_people) rfl
  exact ⟨⟨_, fd, ["people"], h.glo 25 rfl, F.kp, F.bindsN fun _ _ _ _ _ _ us hl => match us, hl with | [_], _ => rfl, fg_need_people h F⟩⟩
theorem fg_is_lot_of {P : Program} {w : World} {K : PySem.W.Frag} {mg : Str → Option Value} {base : Heap} (h : Hd hfa hfn K mg) {f : Addr} {fd : FuncData} {dvs : List V} {kws : List (Str × V)} (F : FunD K d_is_lot_of.name d_is_lot_of.qual d_is_lot_of.params d_is_lot_of.body d_is_lot_of.scope dvs kws f fd) :
    FnG P w K mg base (L2.CX P w) 2 f fd ["people", "thing"] (spG K mg [none, none] .sh D_is_lot_of) := by
  refine fnB_ok (N := ["people", "thing", "person", "one", "other"]) (ps := ["people", "thing"]) (ks := [none, none]) (m := 3) F sc_is_lot_of rfl rfl (fun z => nomatch z) rfl fun cdv A outer s H vs E hv cx po => ?_
  let X : Cx := cxOf (L2.CX P w) P w K mg base ["people", "thing", "person", "one", "other"] d_is_lot_of.qual d_is_lot_of.scope f cdv A outer s H E
  have hN : (["people", "thing", "person", "one", "other"] : List Str).Nodup := sc_is_lot_of.nd
  match vs, hv with
  | [v0, v1], _ =>
    refine ⟨[.no, .no, .no, .no, .no], Wk.refl _, ?_⟩
    let J : Jx := ⟨[.no, .no, .no, .no, .no], .sh, [.no, .no, .no, .no, .no], fun cls d _ H => E cls d H, [], []⟩
    show QSs X J [.sh, .sh, .no, .no, .no] _ _ _
    refine qss_cons (κ1 := [.sh, .sh, .no, .no, .no]) (qs_if (X := X) (J := J) (f := (sRet (eK (.bool false)))) (g := sNil) (qt_w (X := X) (qw_or (X := X) (qt_not (X := X) (qt_val (X := X) (qe_isa (X := X) (n := "tuple") (by decide) (by rfl) (h.free 0 rfl) (by rfl) (h.free 3 rfl) b_tuple (qe_v (X := X) 1 (by rfl) (pv 1))))) (qw_or1 (X := X) (qt_cmp (X := X) (od_gt cx.u64) (qe_callB (X := X) (cd_len) (by rfl) (h.free 9 rfl) b_len (qa_cons (X := X) (qe_v (X := X) 1 (by rfl) (pv 1)) qa_nil)) (qe_gint (X := X) (by rfl) (h.int_ 13 rfl)) (nomark _))))) ?_ ?_ (.drop (.drop (.keep (.keep (.keep .nil)))))) ?_
    · refine qss_one (qs_ret (X := X) (J := J) qe_bl (.drop (.drop (.keep (.keep (.keep .nil))))) (.drop (.drop (.keep (.keep (.keep .nil))))))
    · exact qss_nil
    refine qss_cons (κ1 := [.sh, .sh, .no, .no, .no]) (qs_if (X := X) (J := J) (f := (sRet (eK (.bool false)))) (g := sNil) (qt_not (X := X) (qt_val (X := X) (qe_callB (X := X) (cd_all cx.calm) (by rfl) (h.free 14 rfl) b_all (qa_cons (X := X) (qe_pk (X := X) looks_lst (qe_lc (X := X) (κ := [.sh, .sh, .no, .no, .no]) (own := [("person", 2)]) (κ1 := [.sh, .sh, .sh, .no, .no]) cx.calm hN (qi_v (X := X) (qe_v (X := X) 1 (by rfl) (pv 1))) (by exact blk_of (N := ["people", "thing", "person", "one", "other"]) (sc := d_is_lot_of.scope) (by decide +kernel)) (by unfold NoOw; simp) (by rfl) (fun s1 H1 C1 cl1 fp1 => (qg_name (X := (Cx.blk X s1 H1 _ (compEnvC _ cl1 C1 (Cx.env X)) fp1)) (κ := [.sh, .sh, .no, .no, .no]) (i := 2) hN (by rfl) (by first | exact .inl (by rfl) | exact .inr (by rfl)))) (fun s1 H1 C1 cl1 fp1 => qts_nil) (fun s1 H1 C1 cl1 fp1 => (qe_callF (X := (Cx.blk X s1 H1 _ (compEnvC _ cl1 C1 (Cx.env X)) fp1)) (cx.blk _ _ _ _ _) (ok_is_whole h) (by decide) (by rfl) (qp_sh (X := (Cx.blk X s1 H1 _ (compEnvC _ cl1 C1 (Cx.env X)) fp1)) (qe_v (X := (Cx.blk X s1 H1 _ (compEnvC _ cl1 C1 (Cx.env X)) fp1)) 2 (by rfl) (pv 2)) (qp_sh (X := (Cx.blk X s1 H1 _ (compEnvC _ cl1 C1 (Cx.env X)) fp1)) qe_int (qp_sh (X := (Cx.blk X s1 H1 _ (compEnvC _ cl1 C1 (Cx.env X)) fp1)) (qe_op (X := (Cx.blk X s1 H1 _ (compEnvC _ cl1 C1 (Cx.env X)) fp1)) od_sub (qe_v (X := (Cx.blk X s1 H1 _ (compEnvC _ cl1 C1 (Cx.env X)) fp1)) 0 (by rfl) (pv 0)) qe_int) qp_nil))) (noTwice_of (by decide)))))) qa_nil)))) ?_ ?_ (.drop (.drop (.keep (.keep (.keep .nil)))))) ?_
    · refine qss_one (qs_ret (X := X) (J := J) qe_bl (.drop (.drop (.keep (.keep (.keep .nil))))) (.drop (.drop (.keep (.keep (.keep .nil))))))
    · exact qss_nil
    refine qss_one (qs_ret (X := X) (J := J) (qe_callB (X := X) (cd_all cx.calm) (by rfl) (h.free 14 rfl) b_all (qa_cons (X := X) (qe_pk (X := X) looks_lst (qe_lc (X := X) (κ := [.sh, .sh, .no, .no, .no]) (own := [("one", 3), ("other", 4)]) (κ1 := [.sh, .sh, .no, .sh, .sh]) cx.calm hN (qi_zip (X := X) (by rfl) (h.free 15 rfl) (qa_cons (X := X) (qe_v (X := X) 1 (by rfl) (pv 1)) (qa_cons (X := X) (qe_sl (X := X) sld_t (qe_v (X := X) 1 (by rfl) (pv 1)) (qo_some (X := X) qe_int) qo_none) qa_nil))) (by exact blk_of (N := ["people", "thing", "person", "one", "other"]) (sc := d_is_lot_of.scope) (by decide +kernel)) (by unfold NoOw; simp) (by rfl) (fun s1 H1 C1 cl1 fp1 => (qg_tup (X := (Cx.blk X s1 H1 _ (compEnvC _ cl1 C1 (Cx.env X)) fp1)) cx.calm (qgs_cons (X := (Cx.blk X s1 H1 _ (compEnvC _ cl1 C1 (Cx.env X)) fp1)) (qg_name (X := (Cx.blk X s1 H1 _ (compEnvC _ cl1 C1 (Cx.env X)) fp1)) (κ := [.sh, .sh, .no, .no, .no]) (i := 3) hN (by rfl) (by first | exact .inl (by rfl) | exact .inr (by rfl))) (qgs_cons (X := (Cx.blk X s1 H1 _ (compEnvC _ cl1 C1 (Cx.env X)) fp1)) (qg_name (X := (Cx.blk X s1 H1 _ (compEnvC _ cl1 C1 (Cx.env X)) fp1)) (κ := [.sh, .sh, .no, .sh, .no]) (i := 4) hN (by rfl) (by first | exact .inl (by rfl) | exact .inr (by rfl))) qgs_nil)))) (fun s1 H1 C1 cl1 fp1 => qts_nil) (fun s1 H1 C1 cl1 fp1 => (qe_cmp (X := (Cx.blk X s1 H1 _ (compEnvC _ cl1 C1 (Cx.env X)) fp1)) (od_lt cx.u64) (qe_v (X := (Cx.blk X s1 H1 _ (compEnvC _ cl1 C1 (Cx.env X)) fp1)) 3 (by rfl) (pv 3)) (qe_v (X := (Cx.blk X s1 H1 _ (compEnvC _ cl1 C1 (Cx.env X)) fp1)) 4 (by rfl) (pv 4)) (nomark _))))) qa_nil)) (.drop (.drop (.keep (.keep (.keep .nil))))) (.drop (.drop (.keep (.keep (.keep .nil))))))
theorem ok_is_lot_of {P : Program} {w : World} {K : PySem.W.Frag} {mg : Str → Option Value} {base : Heap} (h : Hd hfa hfn K mg) : GFn P w K mg base "is_lot_of" 2 [none, none] .sh D_is_lot_of := by
  obtain ⟨fd, F⟩ := h.def_ 3 (d := d_is_lot_of) rfl
  exact ⟨⟨_, fd, ["people", "thing"], h.glo 26 rfl, F.kp, F.bindsN fun _ _ _ _ _ _ us hl => match us, hl with | [_, _], _ => rfl, fg_is_lot_of h F⟩⟩
theorem fg_is_lot {P : Program} {w : World} {K : PySem.W.Frag} {mg : Str → Option Value} {base : Heap} (h : Hd hfa hfn K mg) {f : Addr} {fd : FuncData} {dvs : List V} {kws : List (Str × V)} (F : FunD K d_is_lot.name d_is_lot.qual d_is_lot.params d_is_lot.body d_is_lot.scope dvs kws f fd) :
    FnG P w K mg base (L2.CX P w) 3 f fd ["people", "value"] (spG K mg [none, none] .sh D_is_lot) := by
  refine fnB_ok (N := ["people", "value"]) (ps := ["people", "value"]) (ks := [none, none]) (m := 0) F sc_is_lot rfl rfl (fun z => nomatch z) rfl fun cdv A outer s H vs E hv cx po => ?_
  let X : Cx := cxOf (L2.CX P w) P w K mg base ["people", "value"] d_is_lot.qual d_is_lot.scope f cdv A outer s H E
  have hN : (["people", "value"] : List Str).Nodup := sc_is_lot.nd
  match vs, hv with
  | [v0, v1], _ =>
    refine ⟨[.no, .no], Wk.refl _, ?_⟩
    let J : Jx := ⟨[.no, .no], .sh, [.no, .no], fun cls d _ H => E cls d H, [], []⟩
    show QSs X J [.sh, .sh] _ _ _
    refine qss_cons (κ1 := [.sh, .sh]) (qs_expr (X := X) (J := J) (qe_callF (X := X) cx (ok_need_people h) (by decide) (by rfl) (qp_sh (X := X) (qe_v (X := X) 0 (by rfl) (pv 0)) qp_nil) (noTwice_of (by decide))) (.drop (.drop .nil))) ?_
    refine qss_one (qs_ret (X := X) (J := J) (qe_callF (X := X) cx (ok_is_lot_of h) (by decide) (by rfl) (qp_sh (X := X) (qe_v (X := X) 0 (by rfl) (pv 0)) (qp_sh (X := X) (qe_v (X := X) 1 (by rfl) (pv 1)) qp_nil)) (noTwice_of (by decide))) (.drop (.drop .nil)) (.drop (.drop .nil)))
theorem ok_is_lot {P : Program} {w : World} {K : PySem.W.Frag} {mg : Str → Option Value} {base : Heap} (h : Hd hfa hfn K mg) : GFn P w K mg base "is_lot" 3 [none, none] .sh D_is_lot := by
  obtain ⟨fd, F⟩ := h.def_ 4 (d := d_is_lot) rfl
  exact ⟨⟨_, fd, ["people", "value"], h.glo 27 rfl, F.kp, F.bindsN fun _ _ _ _ _ _ us hl => match us, hl with | [_, _], _ => rfl, fg_is_lot h F⟩⟩
theorem fg_need_calls {P : Program} {w : World} {K : PySem.W.Frag} {mg : Str → Option Value} {base : Heap} (h : Hd hfa hfn K mg) {f : Addr} {fd : FuncData} {dvs : List V} {kws : List (Str × V)} (F : FunD K d_need_calls.name d_need_calls.qual d_need_calls.params d_need_calls.body d_need_calls.scope dvs kws f fd) :
    FnG P w K mg base (L2.CX P w) 2 f fd ["calls"] (spG K mg [none] .sh D_need_calls) := by
  refine fnB_ok (N := ["calls"]) (ps := ["calls"]) (ks := [none]) (m := 0) F sc_need_calls rfl rfl (fun _ => rfl) rfl fun cdv A outer s H vs E hv cx po => ?_
  let X : Cx := cxOf (L2.CX P w) P w K mg base ["calls"] d_need_calls.qual d_need_calls.scope f cdv A outer s H E
  have hN : (["calls"] : List Str).Nodup := sc_need_calls.nd
  match vs, hv with
  | [v0], _ =>
    refine ⟨[.sh], (.drop .nil), ?_⟩
    let J : Jx := ⟨[.no], .sh, [.no], fun cls d _ H => E cls d H, [], []⟩
    show QSs X J [.sh] _ _ _
    refine qss_one (qs_if (X := X) (J := J) (f := sBad) (g := sNil) (qt_w (X := X) (qw_and (X := X) (qt_cmp (X := X) od_notN (qe_v (X := X) 0 (by rfl) (pv 0)) qe_non (nomark _)) (qw_and1 (X := X) (qt_not (X := X) (qt_val (X := X) (qe_callF (X := X) cx (ok_is_whole h) (by decide) (by rfl) (qp_sh (X := X) (qe_v (X := X) 0 (by rfl) (pv 0)) (qp_sh (X := X) (qe_gint (X := X) (by rfl) (h.int_ 11 rfl)) (qp_sh (X := X) (qe_gint (X := X) (by rfl) (h.int_ 10 rfl)) qp_nil))) (noTwice_of (by decide)))))))) ?_ ?_ (.drop .nil))
    · refine qss_one qs_bad
    · exact qss_nil
theorem ok_need_calls {P : Program} {w : World} {K : PySem.W.Frag} {mg : Str → Option Value} {base : Heap} (h : Hd hfa hfn K mg) : GFn P w K mg base "need_calls" 2 [none] .sh D_need_calls := by
  obtain ⟨fd, F⟩ := h.def_ 5 (d := d_need_calls) rfl
  exact ⟨⟨_, fd, ["calls"], h.glo 28 rfl, F.kp, F.bindsN fun _ _ _ _ _ _ us hl => match us, hl with | [_], _ => rfl, fg_need_calls h F⟩⟩
theorem fg_row_told {P : Program} {w : World} {K : PySem.W.Frag} {mg : Str → Option Value} {base : Heap} (h : Hd hfa hfn K mg) {f : Addr} {fd : FuncData} {dvs : List V} {kws : List (Str × V)} (F : FunD K d_row_told.name d_row_told.qual d_row_told.params d_row_told.body d_row_told.scope dvs kws f fd) :
    FnG P w K mg base (L2.CX P w) 1 f fd ["calls", "ticks"] (spG K mg [none, none] .sh D_row_told) := by
  refine fnB_ok (N := ["calls", "ticks", "found", "tick"]) (ps := ["calls", "ticks"]) (ks := [none, none]) (m := 2) F sc_row_told rfl rfl (fun z => nomatch z) rfl fun cdv A outer s H vs E hv cx po => ?_
  let X : Cx := cxOf (L2.CX P w) P w K mg base ["calls", "ticks", "found", "tick"] d_row_told.qual d_row_told.scope f cdv A outer s H E
  have hN : (["calls", "ticks", "found", "tick"] : List Str).Nodup := sc_row_told.nd
  match vs, hv with
  | [v0, v1], _ =>
    refine ⟨[.no, .no, .no, .no], Wk.refl _, ?_⟩
    let J : Jx := ⟨[.no, .no, .no, .no], .sh, [.no, .no, .no, .no], fun cls d _ H => E cls d H, [], []⟩
    show QSs X J [.sh, .sh, .no, .no] _ _ _
    refine qss_cons (κ1 := [.sh, .sh, (.ow (fun x => True) (oLst K)), .no]) (qs_set (X := X) (J := J) (i := 2) (rk := (.ow (oLst K))) hN (by rfl) (by first | exact .inl (by rfl) | exact .inr (by rfl)) (qe_lst (X := X) (qa_cons (X := X) qe_int qa_nil)) (.drop (.drop (.keep (.keep .nil))))) ?_
    refine qss_cons (κ1 := [.sh, .sh, (.ow (fun x => True) (oLst K)), .no]) (qs_for (X := X) (J := J) (is := [0, 1, 2, 3]) (κ1 := [.sh, .sh, (.ow (fun x => True) (oLst K)), .sh]) (f := (sSeq (sDrop (eAppend 2 (eBin dAdd (eK (.int 1)) (eCB dSum (aCons (eIf (eTst asB (eBin dIsN (eV 0) (eK .none))) (eV 2) (eSl dSlL (eV 2) (oSome (eCB dMax (aCons (eK (.int 0)) (aCons (eBin dSub (eV 3) (eV 0)) aNil)))) oNone)) aNil))))) (sClr [3] sNil))) po cx.calm (qi_range2 (X := X) (by rfl) (h.free 16 rfl) (qa_cons (X := X) qe_int (qa_cons (X := X) (qe_op (X := X) od_add (qe_v (X := X) 1 (by rfl) (pv 1)) qe_int) qa_nil))) (qg_name (X := X) (κ := [.sh, .sh, (.ow (fun x => True) (oLst K)), .no]) (i := 3) hN (by rfl) (by first | exact .inl (by rfl) | exact .inr (by rfl))) ?_ (.drop (.drop (.drop (.keep .nil))))) ?_
    · refine qss_cons (κ1 := [.sh, .sh, (.ow (fun x => True) (oLst K)), .sh]) (qs_expr (X := X) (J := { J with κb := [.sh, .sh, (.ow (fun x => True) (oLst K)), .no], κc := [.sh, .sh, (.ow (fun x => True) (oLst K)), .no] }) (qe_append (X := X) 2 (by rfl) (pv 2) (qe_op (X := X) od_add qe_int (qe_callB (X := X) (cd_sum cx.calm) (by rfl) (h.free 18 rfl) b_sum (qa_cons (X := X) (qe_if (X := X) (qt_cmp (X := X) od_isN (qe_v (X := X) 0 (by rfl) (pv 0)) qe_non (nomark _)) (qe_vp (X := X) 2 (by rfl) looks_lst (pv 2)) (qe_pk (X := X) looks_lst (qe_sl (X := X) sld_l (qe_vp (X := X) 2 (by rfl) looks_lst (pv 2)) (qo_some (X := X) (qe_callB (X := X) (cd_max cx.calm cx.u65) (by rfl) (h.free 17 rfl) b_max (qa_cons (X := X) qe_int (qa_cons (X := X) (qe_op (X := X) od_sub (qe_v (X := X) 3 (by rfl) (pv 3)) (qe_v (X := X) 0 (by rfl) (pv 0))) qa_nil)))) qo_none))) qa_nil)))) (.drop (.drop (.drop (.drop .nil))))) ?_
      exact qss_clr (is := [3]) qss_nil (.keep (.keep (.keep (.drop .nil)))) (by simp)
    refine qss_frz 2 (c := fun _ => True) (by rfl) ?_
    show QSs X _ [.sh, .sh, .sh, .no] _ _ _
    refine qss_one (qs_ret (X := X) (J := J) (qe_v (X := X) 2 (by rfl) (pv 2)) (.drop (.drop (.drop (.keep .nil)))) (.drop (.drop (.drop (.keep .nil)))))
theorem ok_row_told {P : Program} {w : World} {K : PySem.W.Frag} {mg : Str → Option Value} {base : Heap} (h : Hd hfa hfn K mg) : GFn P w K mg base "row_told" 1 [none, none] .sh D_row_told := by
  obtain ⟨fd, F⟩ := h.def_ 6 (d := d_row_told) rfl
  exact ⟨⟨_, fd, ["calls", "ticks"], h.glo 29 rfl, F.kp, F.bindsN fun _ _ _ _ _ _ us hl => match us, hl with | [_, _], _ => rfl, fg_row_told h F⟩⟩
theorem fg_most_told {P : Program} {w : World} {K : PySem.W.Frag} {mg : Str → Option Value} {base : Heap} (h : Hd hfa hfn K mg) {f : Addr} {fd : FuncData} {dvs : List V} {kws : List (Str × V)} (F : FunD K d_most_told.name d_most_told.qual d_most_told.params d_most_told.body d_most_told.scope dvs kws f fd) :
    FnG P w K mg base (L2.CX P w) 3 f fd ["calls", "ticks"] (spG K mg [none, none] .sh D_most_told) := by
  refine fnB_ok (N := ["calls", "ticks"]) (ps := ["calls", "ticks"]) (ks := [none, none]) (m := 0) F sc_most_told rfl rfl (fun z => nomatch z) rfl fun cdv A outer s H vs E hv cx po => ?_
  let X : Cx := cxOf (L2.CX P w) P w K mg base ["calls", "ticks"] d_most_told.qual d_most_told.scope f cdv A outer s H E
  have hN : (["calls", "ticks"] : List Str).Nodup := sc_most_told.nd
  match vs, hv with
  | [v0, v1], _ =>
    refine ⟨[.no, .no], Wk.refl _, ?_⟩
    let J : Jx := ⟨[.no, .no], .sh, [.no, .no], fun cls d _ H => E cls d H, [], []⟩
    show QSs X J [.sh, .sh] _ _ _
    refine qss_cons (κ1 := [.sh, .sh]) (qs_expr (X := X) (J := J) (qe_callF (X := X) cx (ok_need_calls h) (by decide) (by rfl) (qp_sh (X := X) (qe_v (X := X) 0 (by rfl) (pv 0)) qp_nil) (noTwice_of (by decide))) (.drop (.drop .nil))) ?_
    refine qss_cons (κ1 := [.sh, .sh]) (qs_if (X := X) (J := J) (f := sBad) (g := sNil) (qt_not (X := X) (qt_val (X := X) (qe_callF (X := X) cx (ok_is_whole h) (by decide) (by rfl) (qp_sh (X := X) (qe_v (X := X) 1 (by rfl) (pv 1)) (qp_sh (X := X) qe_int (qp_sh (X := X) (qe_gint (X := X) (by rfl) (h.int_ 19 rfl)) qp_nil))) (noTwice_of (by decide))))) ?_ ?_ (.drop (.drop .nil))) ?_
    · refine qss_one qs_bad
    · exact qss_nil
    refine qss_one (qs_ret (X := X) (J := J) (qe_ix (X := X) ixd (qe_callF (X := X) cx (ok_row_told h) (by decide) (by rfl) (qp_sh (X := X) (qe_v (X := X) 0 (by rfl) (pv 0)) (qp_sh (X := X) (qe_v (X := X) 1 (by rfl) (pv 1)) qp_nil)) (noTwice_of (by decide))) (qe_v (X := X) 1 (by rfl) (pv 1)) (fun _ _ => (by rfl))) (.drop (.drop .nil)) (.drop (.drop .nil)))
theorem ok_most_told {P : Program} {w : World} {K : PySem.W.Frag} {mg : Str → Option Value} {base : Heap} (h : Hd hfa hfn K mg) : GFn P w K mg base "most_told" 3 [none, none] .sh D_most_told := by
  obtain ⟨fd, F⟩ := h.def_ 7 (d := d_most_told) rfl
  exact ⟨⟨_, fd, ["calls", "ticks"], h.glo 30 rfl, F.kp, F.bindsN fun _ _ _ _ _ _ us hl => match us, hl with | [_, _], _ => rfl, fg_most_told h F⟩⟩
theorem fg_ticks_for {P : Program} {w : World} {K : PySem.W.Frag} {mg : Str → Option Value} {base : Heap} (h : Hd hfa hfn K mg) {f : Addr} {fd : FuncData} {dvs : List V} {kws : List (Str × V)} (F : FunD K d_ticks_for.name d_ticks_for.qual d_ticks_for.params d_ticks_for.body d_ticks_for.scope dvs kws f fd) :
    FnG P w K mg base (L2.CX P w) 1 f fd ["calls", "people"] (spG K mg [none, none] .sh D_ticks_for) := by
  refine fnB_ok (N := ["calls", "people", "found"]) (ps := ["calls", "people"]) (ks := [none, none]) (m := 1) F sc_ticks_for rfl rfl (fun z => nomatch z) rfl fun cdv A outer s H vs E hv cx po => ?_
  let X : Cx := cxOf (L2.CX P w) P w K mg base ["calls", "people", "found"] d_ticks_for.qual d_ticks_for.scope f cdv A outer s H E
  have hN : (["calls", "people", "found"] : List Str).Nodup := sc_ticks_for.nd
  match vs, hv with
  | [v0, v1], _ =>
    refine ⟨[.no, .no, .no], Wk.refl _, ?_⟩
    let J : Jx := ⟨[.no, .no, .no], .sh, [.no, .no, .no], fun cls d _ H => E cls d H, [], []⟩
    show QSs X J [.sh, .sh, .no] _ _ _
    refine qss_cons (κ1 := [.sh, .sh, (.ow (fun x => True) (oLst K))]) (qs_set (X := X) (J := J) (i := 2) (rk := (.ow (oLst K))) hN (by rfl) (by first | exact .inl (by rfl) | exact .inr (by rfl)) (qe_lst (X := X) (qa_cons (X := X) qe_int qa_nil)) (.drop (.drop (.keep .nil)))) ?_
    refine qss_cons (κ1 := [.sh, .sh, (.ow (fun x => True) (oLst K))]) (qs_while (X := X) (J := J) (f := (sDrop (eAppend 2 (eBin dAdd (eK (.int 1)) (eCB dSum (aCons (eIf (eTst asB (eBin dIsN (eV 0) (eK .none))) (eV 2) (eSl dSlL (eV 2) (oSome (eCB dMax (aCons (eK (.int 0)) (aCons (eBin dSub (eCB dLen (aCons (eV 2) aNil)) (eV 0)) aNil)))) oNone)) aNil)))))) 100000000 po (qt_cmp (X := X) (od_lt cx.u64) (qe_ix (X := X) ixd (qe_vp (X := X) 2 (by rfl) looks_lst (pv 2)) (qe_neg (X := X) qe_int) (fun _ _ => (by rfl))) (qe_v (X := X) 1 (by rfl) (pv 1)) (nomark _)) ?_ (.drop (.drop (.drop .nil)))) ?_
    · refine qss_one (qs_expr (X := X) (J := { J with κb := [.sh, .sh, (.ow (fun x => True) (oLst K))], κc := [.sh, .sh, (.ow (fun x => True) (oLst K))] }) (qe_append (X := X) 2 (by rfl) (pv 2) (qe_op (X := X) od_add qe_int (qe_callB (X := X) (cd_sum cx.calm) (by rfl) (h.free 18 rfl) b_sum (qa_cons (X := X) (qe_if (X := X) (qt_cmp (X := X) od_isN (qe_v (X := X) 0 (by rfl) (pv 0)) qe_non (nomark _)) (qe_vp (X := X) 2 (by rfl) looks_lst (pv 2)) (qe_pk (X := X) looks_lst (qe_sl (X := X) sld_l (qe_vp (X := X) 2 (by rfl) looks_lst (pv 2)) (qo_some (X := X) (qe_callB (X := X) (cd_max cx.calm cx.u65) (by rfl) (h.free 17 rfl) b_max (qa_cons (X := X) qe_int (qa_cons (X := X) (qe_op (X := X) od_sub (qe_callB (X := X) (cd_len) (by rfl) (h.free 9 rfl) b_len (qa_cons (X := X) (qe_vp (X := X) 2 (by rfl) looks_lst (pv 2)) qa_nil)) (qe_v (X := X) 0 (by rfl) (pv 0))) qa_nil)))) qo_none))) qa_nil)))) (.drop (.drop (.drop .nil))))
    refine qss_frz 2 (c := fun _ => True) (by rfl) ?_
    show QSs X _ [.sh, .sh, .sh] _ _ _
    refine qss_one (qs_ret (X := X) (J := J) (qe_v (X := X) 2 (by rfl) (pv 2)) (.drop (.drop (.drop .nil))) (.drop (.drop (.drop .nil))))
theorem ok_ticks_for {P : Program} {w : World} {K : PySem.W.Frag} {mg : Str → Option Value} {base : Heap} (h : Hd hfa hfn K mg) : GFn P w K mg base "ticks_for" 1 [none, none] .sh D_ticks_for := by
  obtain ⟨fd, F⟩ := h.def_ 8 (d := d_ticks_for) rfl
  exact ⟨⟨_, fd, ["calls", "people"], h.glo 31 rfl, F.kp, F.bindsN fun _ _ _ _ _ _ us hl => match us, hl with | [_, _], _ => rfl, fg_ticks_for h F⟩⟩
theorem fg_even_sizes {P : Program} {w : World} {K : PySem.W.Frag} {mg : Str → Option Value} {base : Heap} (h : Hd hfa hfn K mg) {f : Addr} {fd : FuncData} {dvs : List V} {kws : List (Str × V)} (F : FunD K d_even_sizes.name d_even_sizes.qual d_even_sizes.params d_even_sizes.body d_even_sizes.scope dvs kws f fd) :
    FnG P w K mg base (L2.CX P w) 1 f fd ["number", "count"] (spG K mg [none, none] .sh D_even_sizes) := by
  refine fnB_ok (N := ["number", "count", "parts", "place"]) (ps := ["number", "count"]) (ks := [none, none]) (m := 2) F sc_even_sizes rfl rfl (fun z => nomatch z) rfl fun cdv A outer s H vs E hv cx po => ?_
  let X : Cx := cxOf (L2.CX P w) P w K mg base ["number", "count", "parts", "place"] d_even_sizes.qual d_even_sizes.scope f cdv A outer s H E
  have hN : (["number", "count", "parts", "place"] : List Str).Nodup := sc_even_sizes.nd
  match vs, hv with
  | [v0, v1], _ =>
    refine ⟨[.no, .no, .no, .no], Wk.refl _, ?_⟩
    let J : Jx := ⟨[.no, .no, .no, .no], .sh, [.no, .no, .no, .no], fun cls d _ H => E cls d H, [], []⟩
    show QSs X J [.sh, .sh, .no, .no] _ _ _
    refine qss_cons (κ1 := [.sh, .sh, .sh, .no]) (qs_set (X := X) (J := J) (i := 2) (rk := .sh) hN (by rfl) (by first | exact .inl (by rfl) | exact .inr (by rfl)) (qe_callB (X := X) (cd_min cx.calm cx.u65) (by rfl) (h.free 20 rfl) b_min (qa_cons (X := X) (qe_v (X := X) 0 (by rfl) (pv 0)) (qa_cons (X := X) (qe_v (X := X) 1 (by rfl) (pv 1)) qa_nil))) (.drop (.drop (.keep (.keep .nil))))) ?_
    refine qss_one (qs_ret (X := X) (J := J) (qe_frz (X := X) (qe_lc (X := X) (κ := [.sh, .sh, .sh, .no]) (own := [("place", 3)]) (κ1 := [.sh, .sh, .sh, .sh]) cx.calm hN (qi_range1 (X := X) (by rfl) (h.free 16 rfl) (qa_cons (X := X) (qe_v (X := X) 2 (by rfl) (pv 2)) qa_nil)) (by exact blk_of (N := ["number", "count", "parts", "place"]) (sc := d_even_sizes.scope) (by decide +kernel)) (by unfold NoOw; simp) (by rfl) (fun s1 H1 C1 cl1 fp1 => (qg_name (X := (Cx.blk X s1 H1 _ (compEnvC _ cl1 C1 (Cx.env X)) fp1)) (κ := [.sh, .sh, .sh, .no]) (i := 3) hN (by rfl) (by first | exact .inl (by rfl) | exact .inr (by rfl)))) (fun s1 H1 C1 cl1 fp1 => qts_nil) (fun s1 H1 C1 cl1 fp1 => (qe_op (X := (Cx.blk X s1 H1 _ (compEnvC _ cl1 C1 (Cx.env X)) fp1)) od_add (qe_op (X := (Cx.blk X s1 H1 _ (compEnvC _ cl1 C1 (Cx.env X)) fp1)) od_div (qe_v (X := (Cx.blk X s1 H1 _ (compEnvC _ cl1 C1 (Cx.env X)) fp1)) 1 (by rfl) (pv 1)) (qe_v (X := (Cx.blk X s1 H1 _ (compEnvC _ cl1 C1 (Cx.env X)) fp1)) 2 (by rfl) (pv 2))) (qe_callTy (X := (Cx.blk X s1 H1 _ (compEnvC _ cl1 C1 (Cx.env X)) fp1)) (cd_int) (by rfl) (h.free 1 rfl) b_int (qa_cons (X := (Cx.blk X s1 H1 _ (compEnvC _ cl1 C1 (Cx.env X)) fp1)) (qe_cmp (X := (Cx.blk X s1 H1 _ (compEnvC _ cl1 C1 (Cx.env X)) fp1)) (od_lt cx.u64) (qe_v (X := (Cx.blk X s1 H1 _ (compEnvC _ cl1 C1 (Cx.env X)) fp1)) 3 (by rfl) (pv 3)) (qe_op (X := (Cx.blk X s1 H1 _ (compEnvC _ cl1 C1 (Cx.env X)) fp1)) od_mod (qe_callTy (X := (Cx.blk X s1 H1 _ (compEnvC _ cl1 C1 (Cx.env X)) fp1)) (cd_int) (by rfl) (h.free 1 rfl) b_int (qa_cons (X := (Cx.blk X s1 H1 _ (compEnvC _ cl1 C1 (Cx.env X)) fp1)) (qe_v (X := (Cx.blk X s1 H1 _ (compEnvC _ cl1 C1 (Cx.env X)) fp1)) 1 (by rfl) (pv 1)) qa_nil)) (qe_v (X := (Cx.blk X s1 H1 _ (compEnvC _ cl1 C1 (Cx.env X)) fp1)) 2 (by rfl) (pv 2))) (nomark _)) qa_nil)))))) (.drop (.drop (.drop (.keep .nil)))) (.drop (.drop (.drop (.keep .nil)))))
theorem ok_even_sizes {P : Program} {w : World} {K : PySem.W.Frag} {mg : Str → Option Value} {base : Heap} (h : Hd hfa hfn K mg) : GFn P w K mg base "even_sizes" 1 [none, none] .sh D_even_sizes := by
  obtain ⟨fd, F⟩ := h.def_ 9 (d := d_even_sizes) rfl
  exact ⟨⟨_, fd, ["number", "count"], h.glo 32 rfl, F.kp, F.bindsN fun _ _ _ _ _ _ us hl => match us, hl with | [_, _], _ => rfl, fg_even_sizes h F⟩⟩
theorem fg_half_sizes {P : Program} {w : World} {K : PySem.W.Frag} {mg : Str → Option Value} {base : Heap} (h : Hd hfa hfn K mg) {f : Addr} {fd : FuncData} {dvs : List V} {kws : List (Str × V)} (F : FunD K d_half_sizes.name d_half_sizes.qual d_half_sizes.params d_half_sizes.body d_half_sizes.scope dvs kws f fd) :
    FnG P w K mg base (L2.CX P w) 1 f fd ["count"] (spG K mg [none] .sh D_half_sizes) := by
  refine fnB_ok (N := ["count", "found"]) (ps := ["count"]) (ks := [none]) (m := 1) F sc_half_sizes rfl rfl (fun z => nomatch z) rfl fun cdv A outer s H vs E hv cx po => ?_
  let X : Cx := cxOf (L2.CX P w) P w K mg base ["count", "found"] d_half_sizes.qual d_half_sizes.scope f cdv A outer s H E
  have hN : (["count", "found"] : List Str).Nodup := sc_half_sizes.nd
  match vs, hv with
  | [v0], _ =>
    refine ⟨[.no, .no], Wk.refl _, ?_⟩
    let J : Jx := ⟨[.no, .no], .sh, [.no, .no], fun cls d _ H => E cls d H, [], []⟩
    show QSs X J [.sh, .no] _ _ _
    refine qss_cons (κ1 := [.sh, (.ow (fun x => True) (oLst K))]) (qs_set (X := X) (J := J) (i := 1) (rk := (.ow (oLst K))) hN (by rfl) (by first | exact .inl (by rfl) | exact .inr (by rfl)) (qe_lst (X := X) qa_nil) (.drop (.keep .nil))) ?_
    refine qss_cons (κ1 := [.sh, (.ow (fun x => True) (oLst K))]) (qs_while (X := X) (J := J) (f := (sSeq (sDrop (eAppend 1 (eBin dDiv (eBin dAdd (eV 0) (eK (.int 1))) (eK (.int 2))))) (sSet 0 (eBin dDiv (eV 0) (eK (.int 2)))))) 100000000 po (qt_cmp (X := X) (od_gt cx.u64) (qe_v (X := X) 0 (by rfl) (pv 0)) qe_int (nomark _)) ?_ (.drop (.drop .nil))) ?_
    · refine qss_cons (κ1 := [.sh, (.ow (fun x => True) (oLst K))]) (qs_expr (X := X) (J := { J with κb := [.sh, (.ow (fun x => True) (oLst K))], κc := [.sh, (.ow (fun x => True) (oLst K))] }) (qe_append (X := X) 1 (by rfl) (pv 1) (qe_op (X := X) od_div (qe_op (X := X) od_add (qe_v (X := X) 0 (by rfl) (pv 0)) qe_int) qe_int)) (.drop (.drop .nil))) ?_
      refine qss_one (qs_set (X := X) (J := { J with κb := [.sh, (.ow (fun x => True) (oLst K))], κc := [.sh, (.ow (fun x => True) (oLst K))] }) (i := 0) (rk := .sh) hN (by rfl) (by first | exact .inl (by rfl) | exact .inr (by rfl)) (qe_op (X := X) od_div (qe_v (X := X) 0 (by rfl) (pv 0)) qe_int) (.drop (.drop .nil)))
    refine qss_frz 1 (c := fun _ => True) (by rfl) ?_
    show QSs X _ [.sh, .sh] _ _ _
    refine qss_one (qs_ret (X := X) (J := J) (qe_v (X := X) 1 (by rfl) (pv 1)) (.drop (.drop .nil)) (.drop (.drop .nil)))
theorem ok_half_sizes {P : Program} {w : World} {K : PySem.W.Frag} {mg : Str → Option Value} {base : Heap} (h : Hd hfa hfn K mg) : GFn P w K mg base "half_sizes" 1 [none] .sh D_half_sizes := by
  obtain ⟨fd, F⟩ := h.def_ 10 (d := d_half_sizes) rfl
  exact ⟨⟨_, fd, ["count"], h.glo 33 rfl, F.kp, F.bindsN fun _ _ _ _ _ _ us hl => match us, hl with | [_], _ => rfl, fg_half_sizes h F⟩⟩
theorem fg_best_sizes {P : Program} {w : World} {K : PySem.W.Frag} {mg : Str → Option Value} {base : Heap} (h : Hd hfa hfn K mg) {f : Addr} {fd : FuncData} {dvs : List V} {kws : List (Str × V)} (F : FunD K d_best_sizes.name d_best_sizes.qual d_best_sizes.params d_best_sizes.body d_best_sizes.scope dvs kws f fd) :
    FnG P w K mg base (L2.CX P w) 2 f fd ["calls", "count"] (spG K mg [none, none] .sh D_best_sizes) := by
  refine fnB_ok (N := ["calls", "count", "row", "found", "told"]) (ps := ["calls", "count"]) (ks := [none, none]) (m := 3) F sc_best_sizes rfl rfl (fun z => nomatch z) rfl fun cdv A outer s H vs E hv cx po => ?_
  let X : Cx := cxOf (L2.CX P w) P w K mg base ["calls", "count", "row", "found", "told"] d_best_sizes.qual d_best_sizes.scope f cdv A outer s H E
  have hN : (["calls", "count", "row", "found", "told"] : List Str).Nodup := sc_best_sizes.nd
  match vs, hv with
  | [v0, v1], _ =>
    refine ⟨[.no, .no, .no, .no, .no], Wk.refl _, ?_⟩
    let J : Jx := ⟨[.no, .no, .no, .no, .no], .sh, [.no, .no, .no, .no, .no], fun cls d _ H => E cls d H, [], []⟩
    show QSs X J [.sh, .sh, .no, .no, .no] _ _ _
    refine qss_cons (κ1 := [.sh, .sh, .sh, (.ow (fun x => True) (oLst K)), .no]) (qs_parO (X := X) (J := J) (i := 2) (j := 3) cx.calm hN (by rfl) (by rfl) (by decide) (by rfl) (by rfl) (qe_callF (X := X) cx (ok_ticks_for h) (by decide) (by rfl) (qp_sh (X := X) (qe_v (X := X) 0 (by rfl) (pv 0)) (qp_sh (X := X) (qe_op (X := X) od_add (qe_v (X := X) 1 (by rfl) (pv 1)) qe_int) qp_nil)) (noTwice_of (by decide))) (qe_lst (X := X) qa_nil) (.drop (.drop (.keep (.keep (.keep .nil))))) (by rfl)) ?_
    refine qss_cons (κ1 := [.sh, .sh, .sh, (.ow (fun x => True) (oLst K)), .no]) (qs_for (X := X) (J := J) (is := [0, 1, 2, 3, 4]) (κ1 := [.sh, .sh, .sh, (.ow (fun x => True) (oLst K)), .sh]) (f := (sSeq (sIf (eTst asB (eBin dGt (eV 1) (eK (.int 0)))) (sSeq (sDrop (eAppend 3 (eCB dMin (aCons (eV 4) (aCons (eV 1) aNil))))) (sAug 1 dSubI (eBin dIx (eV 3) (eNeg (eK (.int 1)))))) sNil) (sClr [4] sNil))) po cx.calm (qi_v (X := X) (qe_frz (X := X) (qe_revL (X := X) (qe_pk (X := X) looks_lst (qe_sl (X := X) sld_l (qe_v (X := X) 2 (by rfl) (pv 2)) qo_none (qo_some (X := X) (qe_neg (X := X) qe_int))))))) (qg_name (X := X) (κ := [.sh, .sh, .sh, (.ow (fun x => True) (oLst K)), .no]) (i := 4) hN (by rfl) (by first | exact .inl (by rfl) | exact .inr (by rfl))) ?_ (.drop (.drop (.drop (.drop (.keep .nil)))))) ?_
    · refine qss_cons (κ1 := [.sh, .sh, .sh, (.ow (fun x => True) (oLst K)), .sh]) (qs_if (X := X) (J := { J with κb := [.sh, .sh, .sh, (.ow (fun x => True) (oLst K)), .no], κc := [.sh, .sh, .sh, (.ow (fun x => True) (oLst K)), .no] }) (f := (sSeq (sDrop (eAppend 3 (eCB dMin (aCons (eV 4) (aCons (eV 1) aNil))))) (sAug 1 dSubI (eBin dIx (eV 3) (eNeg (eK (.int 1))))))) (g := sNil) (qt_cmp (X := X) (od_gt cx.u64) (qe_v (X := X) 1 (by rfl) (pv 1)) qe_int (nomark _)) ?_ ?_ (.drop (.drop (.drop (.drop (.drop .nil)))))) ?_
      · refine qss_cons (κ1 := [.sh, .sh, .sh, (.ow (fun x => True) (oLst K)), .sh]) (qs_expr (X := X) (J := { J with κb := [.sh, .sh, .sh, (.ow (fun x => True) (oLst K)), .no], κc := [.sh, .sh, .sh, (.ow (fun x => True) (oLst K)), .no] }) (qe_append (X := X) 3 (by rfl) (pv 3) (qe_callB (X := X) (cd_min cx.calm cx.u65) (by rfl) (h.free 20 rfl) b_min (qa_cons (X := X) (qe_v (X := X) 4 (by rfl) (pv 4)) (qa_cons (X := X) (qe_v (X := X) 1 (by rfl) (pv 1)) qa_nil)))) (.drop (.drop (.drop (.drop (.drop .nil)))))) ?_
        refine qss_one (qs_aug (X := X) (J := { J with κb := [.sh, .sh, .sh, (.ow (fun x => True) (oLst K)), .no], κc := [.sh, .sh, .sh, (.ow (fun x => True) (oLst K)), .no] }) (i := 1) hN (by rfl) (by first | exact .inl (by rfl) | exact .inr (by rfl)) ip_sub (aug_ints_sub) (by rfl) (qe_ix (X := X) ixd (qe_vp (X := X) 3 (by rfl) looks_lst (pv 3)) (qe_neg (X := X) qe_int) (fun _ _ => (by rfl))) (.drop (.drop (.drop (.drop (.drop .nil))))))
      · exact qss_nil
      exact qss_clr (is := [4]) qss_nil (.keep (.keep (.keep (.keep (.drop .nil))))) (by simp)
    refine qss_frz 3 (c := fun _ => True) (by rfl) ?_
    show QSs X _ [.sh, .sh, .sh, .sh, .no] _ _ _
    refine qss_one (qs_ret (X := X) (J := J) (qe_v (X := X) 3 (by rfl) (pv 3)) (.drop (.drop (.drop (.drop (.keep .nil))))) (.drop (.drop (.drop (.drop (.keep .nil))))))
theorem ok_best_sizes {P : Program} {w : World} {K : PySem.W.Frag} {mg : Str → Option Value} {base : Heap} (h : Hd hfa hfn K mg) : GFn P w K mg base "best_sizes" 2 [none, none] .sh D_best_sizes := by
  obtain ⟨fd, F⟩ := h.def_ 11 (d := d_best_sizes) rfl
  exact ⟨⟨_, fd, ["calls", "count"], h.glo 34 rfl, F.kp, F.bindsN fun _ _ _ _ _ _ us hl => match us, hl with | [_, _], _ => rfl, fg_best_sizes h F⟩⟩
theorem fg_heap_sizes {P : Program} {w : World} {K : PySem.W.Frag} {mg : Str → Option Value} {base : Heap} (h : Hd hfa hfn K mg) {f : Addr} {fd : FuncData} {dvs : List V} {kws : List (Str × V)} (F : FunD K d_heap_sizes.name d_heap_sizes.qual d_heap_sizes.params d_heap_sizes.body d_heap_sizes.scope dvs kws f fd) :
    FnG P w K mg base (L2.CX P w) 1 f fd ["number", "count"] (spG K mg [none, none] .sh D_heap_sizes) := by
  refine fnB_ok (N := ["number", "count", "level", "whole", "left", "found", "place", "one"]) (ps := ["number", "count"]) (ks := [none, none]) (m := 6) F sc_heap_sizes rfl rfl (fun z => nomatch z) rfl fun cdv A outer s H vs E hv cx po => ?_
  let X : Cx := cxOf (L2.CX P w) P w K mg base ["number", "count", "level", "whole", "left", "found", "place", "one"] d_heap_sizes.qual d_heap_sizes.scope f cdv A outer s H E
  have hN : (["number", "count", "level", "whole", "left", "found", "place", "one"] : List Str).Nodup := sc_heap_sizes.nd
  match vs, hv with
  | [v0, v1], _ =>
    refine ⟨[.no, .no, .no, .no, .no, .no, .no, .no], Wk.refl _, ?_⟩
    let J : Jx := ⟨[.no, .no, .no, .no, .no, .no, .no, .no], .sh, [.no, .no, .no, .no, .no, .no, .no, .no], fun cls d _ H => E cls d H, [], []⟩
    show QSs X J [.sh, .sh, .no, .no, .no, .no, .no, .no] _ _ _
    refine qss_cons (κ1 := [.sh, .sh, .sh, .sh, .no, .no, .no, .no]) (qs_asg (X := X) (J := J) (is := [0, 1, 2, 3, 4, 5, 6, 7]) (qe_tup (X := X) (qa_cons (X := X) qe_int (qa_cons (X := X) qe_int qa_nil))) (qg_tup (X := X) cx.calm (qgs_cons (X := X) (qg_name (X := X) (κ := [.sh, .sh, .no, .no, .no, .no, .no, .no]) (i := 2) hN (by rfl) (by first | exact .inl (by rfl) | exact .inr (by rfl))) (qgs_cons (X := X) (qg_name (X := X) (κ := [.sh, .sh, .sh, .no, .no, .no, .no, .no]) (i := 3) hN (by rfl) (by first | exact .inl (by rfl) | exact .inr (by rfl))) qgs_nil))) (.drop (.drop (.keep (.keep (.keep (.keep (.keep (.keep .nil))))))))) ?_
    refine qss_cons (κ1 := [.sh, .sh, .sh, .sh, .no, .no, .no, .no]) (qs_while (X := X) (J := J) (f := (sSeq (sAug 2 dMulI (eV 0)) (sAug 3 dAddI (eV 2)))) 100000000 po (qt_cmp (X := X) (od_le cx.u64) (qe_op (X := X) od_add (qe_v (X := X) 3 (by rfl) (pv 3)) (qe_op (X := X) od_mul (qe_v (X := X) 2 (by rfl) (pv 2)) (qe_v (X := X) 0 (by rfl) (pv 0)))) (qe_op (X := X) od_add (qe_v (X := X) 1 (by rfl) (pv 1)) qe_int) (nomark _)) ?_ (.drop (.drop (.drop (.drop (.keep (.keep (.keep (.keep .nil))))))))) ?_
    · refine qss_cons (κ1 := [.sh, .sh, .sh, .sh, .no, .no, .no, .no]) (qs_augM (X := X) (J := { J with κb := [.sh, .sh, .sh, .sh, .no, .no, .no, .no], κc := [.sh, .sh, .sh, .sh, .no, .no, .no, .no] }) (i := 2) hN (by rfl) (by first | exact .inl (by rfl) | exact .inr (by rfl)) (by rfl) (qe_v (X := X) 0 (by rfl) (pv 0)) (.drop (.drop (.drop (.drop (.keep (.keep (.keep (.keep .nil))))))))) ?_
      refine qss_one (qs_aug (X := X) (J := { J with κb := [.sh, .sh, .sh, .sh, .no, .no, .no, .no], κc := [.sh, .sh, .sh, .sh, .no, .no, .no, .no] }) (i := 3) hN (by rfl) (by first | exact .inl (by rfl) | exact .inr (by rfl)) ip_add (aug_ints_add) (by rfl) (qe_v (X := X) 2 (by rfl) (pv 2)) (.drop (.drop (.drop (.drop (.keep (.keep (.keep (.keep .nil)))))))))
    refine qss_cons (κ1 := [.sh, .sh, .sh, .sh, .sh, (.ow (fun x => True) (oLst K)), .no, .no]) (qs_parO (X := X) (J := J) (i := 4) (j := 5) cx.calm hN (by rfl) (by rfl) (by decide) (by rfl) (by rfl) (qe_op (X := X) od_sub (qe_op (X := X) od_add (qe_v (X := X) 1 (by rfl) (pv 1)) qe_int) (qe_v (X := X) 3 (by rfl) (pv 3))) (qe_lst (X := X) qa_nil) (.drop (.drop (.drop (.drop (.keep (.keep (.keep (.keep .nil)))))))) (by rfl)) ?_
    refine qss_cons (κ1 := [.sh, .sh, .sh, .sh, .sh, (.ow (fun x => True) (oLst K)), .no, .no]) (qs_for (X := X) (J := J) (is := [0, 1, 2, 3, 4, 5, 6, 7]) (κ1 := [.sh, .sh, .sh, .sh, .sh, (.ow (fun x => True) (oLst K)), .sh, .no]) (f := (sSeq (sDrop (eAppend 5 (eBin dAdd (eBin dDiv (eBin dSub (eV 3) (eK (.int 1))) (eV 0)) (eCB dMin (aCons (eCB dMax (aCons (eK (.int 0)) (aCons (eBin dSub (eV 4) (eBin dMul (eV 6) (eV 2))) aNil))) (aCons (eV 2) aNil)))))) (sClr [6] sNil))) po cx.calm (qi_range1 (X := X) (by rfl) (h.free 16 rfl) (qa_cons (X := X) (qe_v (X := X) 0 (by rfl) (pv 0)) qa_nil)) (qg_name (X := X) (κ := [.sh, .sh, .sh, .sh, .sh, (.ow (fun x => True) (oLst K)), .no, .no]) (i := 6) hN (by rfl) (by first | exact .inl (by rfl) | exact .inr (by rfl))) ?_ (.drop (.drop (.drop (.drop (.drop (.drop (.keep (.keep .nil))))))))) ?_
    · refine qss_cons (κ1 := [.sh, .sh, .sh, .sh, .sh, (.ow (fun x => True) (oLst K)), .sh, .no]) (qs_expr (X := X) (J := { J with κb := [.sh, .sh, .sh, .sh, .sh, (.ow (fun x => True) (oLst K)), .no, .no], κc := [.sh, .sh, .sh, .sh, .sh, (.ow (fun x => True) (oLst K)), .no, .no] }) (qe_append (X := X) 5 (by rfl) (pv 5) (qe_op (X := X) od_add (qe_op (X := X) od_div (qe_op (X := X) od_sub (qe_v (X := X) 3 (by rfl) (pv 3)) qe_int) (qe_v (X := X) 0 (by rfl) (pv 0))) (qe_callB (X := X) (cd_min cx.calm cx.u65) (by rfl) (h.free 20 rfl) b_min (qa_cons (X := X) (qe_callB (X := X) (cd_max cx.calm cx.u65) (by rfl) (h.free 17 rfl) b_max (qa_cons (X := X) qe_int (qa_cons (X := X) (qe_op (X := X) od_sub (qe_v (X := X) 4 (by rfl) (pv 4)) (qe_op (X := X) od_mul (qe_v (X := X) 6 (by rfl) (pv 6)) (qe_v (X := X) 2 (by rfl) (pv 2)))) qa_nil))) (qa_cons (X := X) (qe_v (X := X) 2 (by rfl) (pv 2)) qa_nil))))) (.drop (.drop (.drop (.drop (.drop (.drop (.drop (.keep .nil))))))))) ?_
      exact qss_clr (is := [6]) qss_nil (.keep (.keep (.keep (.keep (.keep (.keep (.drop (.keep .nil)))))))) (by simp)
    refine qss_frz 5 (c := fun _ => True) (by rfl) ?_
    show QSs X _ [.sh, .sh, .sh, .sh, .sh, .sh, .no, .no] _ _ _
    refine qss_one (qs_ret (X := X) (J := J) (qe_frz (X := X) (qe_lc (X := X) (κ := [.sh, .sh, .sh, .sh, .sh, .sh, .no, .no]) (own := [("one", 7)]) (κ1 := [.sh, .sh, .sh, .sh, .sh, .sh, .no, .sh]) cx.calm hN (qi_v (X := X) (qe_v (X := X) 5 (by rfl) (pv 5))) (by exact blk_of (N := ["number", "count", "level", "whole", "left", "found", "place", "one"]) (sc := d_heap_sizes.scope) (by decide +kernel)) (by unfold NoOw; simp) (by rfl) (fun s1 H1 C1 cl1 fp1 => (qg_name (X := (Cx.blk X s1 H1 _ (compEnvC _ cl1 C1 (Cx.env X)) fp1)) (κ := [.sh, .sh, .sh, .sh, .sh, .sh, .no, .no]) (i := 7) hN (by rfl) (by first | exact .inl (by rfl) | exact .inr (by rfl)))) (fun s1 H1 C1 cl1 fp1 => (qts_one (X := (Cx.blk X s1 H1 _ (compEnvC _ cl1 C1 (Cx.env X)) fp1)) (qt_cmp (X := (Cx.blk X s1 H1 _ (compEnvC _ cl1 C1 (Cx.env X)) fp1)) (od_gt cx.u64) (qe_v (X := (Cx.blk X s1 H1 _ (compEnvC _ cl1 C1 (Cx.env X)) fp1)) 7 (by rfl) (pv 7)) qe_int (nomark _)))) (fun s1 H1 C1 cl1 fp1 => (qe_v (X := (Cx.blk X s1 H1 _ (compEnvC _ cl1 C1 (Cx.env X)) fp1)) 7 (by rfl) (pv 7))))) (.drop (.drop (.drop (.drop (.drop (.drop (.keep (.keep .nil)))))))) (.drop (.drop (.drop (.drop (.drop (.drop (.keep (.keep .nil)))))))))
theorem ok_heap_sizes {P : Program} {w : World} {K : PySem.W.Frag} {mg : Str → Option Value} {base : Heap} (h : Hd hfa hfn K mg) : GFn P w K mg base "heap_sizes" 1 [none, none] .sh D_heap_sizes := by
  obtain ⟨fd, F⟩ := h.def_ 12 (d := d_heap_sizes) rfl
  exact ⟨⟨_, fd, ["number", "count"], h.glo 35 rfl, F.kp, F.bindsN fun _ _ _ _ _ _ us hl => match us, hl with | [_, _], _ => rfl, fg_heap_sizes h F⟩⟩
theorem fg_sizes_of {P : Program} {w : World} {K : PySem.W.Frag} {mg : Str → Option Value} {base : Heap} (h : Hd hfa hfn K mg) {f : Addr} {fd : FuncData} {dvs : List V} {kws : List (Str × V)} (F : FunD K d_sizes_of.name d_sizes_of.qual d_sizes_of.params d_sizes_of.body d_sizes_of.scope dvs kws f fd) :
    FnG P w K mg base (L2.CX P w) 3 f fd ["kind", "count"] (spG K mg [none, none] .sh D_sizes_of) := by
  refine fnB_ok (N := ["kind", "count"]) (ps := ["kind", "count"]) (ks := [none, none]) (m := 0) F sc_sizes_of rfl rfl (fun z => nomatch z) rfl fun cdv A outer s H vs E hv cx po => ?_
  let X : Cx := cxOf (L2.CX P w) P w K mg base ["kind", "count"] d_sizes_of.qual d_sizes_of.scope f cdv A outer s H E
  have hN : (["kind", "count"] : List Str).Nodup := sc_sizes_of.nd
  match vs, hv with
  | [v0, v1], _ =>
    refine ⟨[.no, .no], Wk.refl _, ?_⟩
    let J : Jx := ⟨[.no, .no], .sh, [.no, .no], fun cls d _ H => E cls d H, [], []⟩
    show QSs X J [.sh, .sh] _ _ _
    refine qss_cons (κ1 := [.sh, .sh]) (qs_if (X := X) (J := J) (f := (sRet (eLst aNil))) (g := sNil) (qt_cmp (X := X) (od_eq cx.u64) (qe_v (X := X) 1 (by rfl) (pv 1)) qe_int (nomark _)) ?_ ?_ (.drop (.drop .nil))) ?_
    · refine qss_one (qs_ret (X := X) (J := J) (qe_frz (X := X) (qe_lst (X := X) qa_nil)) (.drop (.drop .nil)) (.drop (.drop .nil)))
    · exact qss_nil
    refine qss_cons (κ1 := [.sh, .sh]) (qs_if (X := X) (J := J) (f := (sRet (eCall [none, none] (aCons (eBin dIx (eV 0) (eK (.int 1))) (aCons (eV 1) aNil)) D_even_sizes))) (g := sNil) (qt_cmp (X := X) (od_eq cx.u64) (qe_ix (X := X) ixd (qe_v (X := X) 0 (by rfl) (pv 0)) qe_int (fun _ _ => (by rfl))) (qe_gstr (X := X) (by rfl) (h.str_ 8 rfl)) (nomark _)) ?_ ?_ (.drop (.drop .nil))) ?_
    · refine qss_one (qs_ret (X := X) (J := J) (qe_callF (X := X) cx (ok_even_sizes h) (by decide) (by rfl) (qp_sh (X := X) (qe_ix (X := X) ixd (qe_v (X := X) 0 (by rfl) (pv 0)) qe_int (fun _ _ => (by rfl))) (qp_sh (X := X) (qe_v (X := X) 1 (by rfl) (pv 1)) qp_nil)) (noTwice_of (by decide))) (.drop (.drop .nil)) (.drop (.drop .nil)))
    · exact qss_nil
    refine qss_cons (κ1 := [.sh, .sh]) (qs_if (X := X) (J := J) (f := (sRet (eCall [none] (aCons (eV 1) aNil) D_half_sizes))) (g := sNil) (qt_cmp (X := X) (od_eq cx.u64) (qe_ix (X := X) ixd (qe_v (X := X) 0 (by rfl) (pv 0)) qe_int (fun _ _ => (by rfl))) (qe_gstr (X := X) (by rfl) (h.str_ 7 rfl)) (nomark _)) ?_ ?_ (.drop (.drop .nil))) ?_
    · refine qss_one (qs_ret (X := X) (J := J) (qe_callF (X := X) cx (ok_half_sizes h) (by decide) (by rfl) (qp_sh (X := X) (qe_v (X := X) 1 (by rfl) (pv 1)) qp_nil) (noTwice_of (by decide))) (.drop (.drop .nil)) (.drop (.drop .nil)))
    · exact qss_nil
    refine qss_one (qs_ret (X := X) (J := J) (qe_if (X := X) (qt_cmp (X := X) (od_eq cx.u64) (qe_ix (X := X) ixd (qe_v (X := X) 0 (by rfl) (pv 0)) qe_int (fun _ _ => (by rfl))) (qe_gstr (X := X) (by rfl) (h.str_ 6 rfl)) (nomark _)) (qe_callF (X := X) cx (ok_best_sizes h) (by decide) (by rfl) (qp_sh (X := X) (qe_ix (X := X) ixd (qe_v (X := X) 0 (by rfl) (pv 0)) qe_int (fun _ _ => (by rfl))) (qp_sh (X := X) (qe_v (X := X) 1 (by rfl) (pv 1)) qp_nil)) (noTwice_of (by decide))) (qe_callF (X := X) cx (ok_heap_sizes h) (by decide) (by rfl) (qp_sh (X := X) (qe_ix (X := X) ixd (qe_v (X := X) 0 (by rfl) (pv 0)) qe_int (fun _ _ => (by rfl))) (qp_sh (X := X) (qe_v (X := X) 1 (by rfl) (pv 1)) qp_nil)) (noTwice_of (by decide)))) (.drop (.drop .nil)) (.drop (.drop .nil)))
theorem ok_sizes_of {P : Program} {w : World} {K : PySem.W.Frag} {mg : Str → Option Value} {base : Heap} (h : Hd hfa hfn K mg) : GFn P w K mg base "sizes_of" 3 [none, none] .sh D_sizes_of := by
  obtain ⟨fd, F⟩ := h.def_ 13 (d := d_sizes_of) rfl
  exact ⟨⟨_, fd, ["kind", "count"], h.glo 36 rfl, F.kp, F.bindsN fun _ _ _ _ _ _ us hl => match us, hl with | [_, _], _ => rfl, fg_sizes_of h F⟩⟩
theorem fg_sizes {P : Program} {w : World} {K : PySem.W.Frag} {mg : Str → Option Value} {base : Heap} (h : Hd hfa hfn K mg) {f : Addr} {fd : FuncData} {dvs : List V} {kws : List (Str × V)} (F : FunD K d_sizes.name d_sizes.qual d_sizes.params d_sizes.body d_sizes.scope dvs kws f fd) :
    FnG P w K mg base (L2.CX P w) 4 f fd ["kind", "count"] (spG K mg [none, none] .sh D_sizes) := by
  refine fnB_ok (N := ["kind", "count"]) (ps := ["kind", "count"]) (ks := [none, none]) (m := 0) F sc_sizes rfl rfl (fun z => nomatch z) rfl fun cdv A outer s H vs E hv cx po => ?_
  let X : Cx := cxOf (L2.CX P w) P w K mg base ["kind", "count"] d_sizes.qual d_sizes.scope f cdv A outer s H E
  have hN : (["kind", "count"] : List Str).Nodup := sc_sizes.nd
  match vs, hv with
  | [v0, v1], _ =>
    refine ⟨[.no, .no], Wk.refl _, ?_⟩
    let J : Jx := ⟨[.no, .no], .sh, [.no, .no], fun cls d _ H => E cls d H, [], []⟩
    show QSs X J [.sh, .sh] _ _ _
    refine qss_cons (κ1 := [.sh, .sh]) (qs_expr (X := X) (J := J) (qe_callF (X := X) cx (ok_need_kind h) (by decide) (by rfl) (qp_sh (X := X) (qe_v (X := X) 0 (by rfl) (pv 0)) qp_nil) (noTwice_of (by decide))) (.drop (.drop .nil))) ?_
    refine qss_cons (κ1 := [.sh, .sh]) (qs_if (X := X) (J := J) (f := sBad) (g := sNil) (qt_not (X := X) (qt_val (X := X) (qe_callF (X := X) cx (ok_is_whole h) (by decide) (by rfl) (qp_sh (X := X) (qe_v (X := X) 1 (by rfl) (pv 1)) (qp_sh (X := X) qe_int (qp_sh (X := X) (qe_gint (X := X) (by rfl) (h.int_ 12 rfl)) qp_nil))) (noTwice_of (by decide))))) ?_ ?_ (.drop (.drop .nil))) ?_
    · refine qss_one qs_bad
    · exact qss_nil
    refine qss_one (qs_ret (X := X) (J := J) (qe_callTy (X := X) (cd_tup) (by rfl) (h.free 3 rfl) b_tuple (qa_cons (X := X) (qe_callF (X := X) cx (ok_sizes_of h) (by decide) (by rfl) (qp_sh (X := X) (qe_v (X := X) 0 (by rfl) (pv 0)) (qp_sh (X := X) (qe_v (X := X) 1 (by rfl) (pv 1)) qp_nil)) (noTwice_of (by decide))) qa_nil)) (.drop (.drop .nil)) (.drop (.drop .nil)))
theorem ok_sizes {P : Program} {w : World} {K : PySem.W.Frag} {mg : Str → Option Value} {base : Heap} (h : Hd hfa hfn K mg) : GFn P w K mg base "sizes" 4 [none, none] .sh D_sizes := by
  obtain ⟨fd, F⟩ := h.def_ 14 (d := d_sizes) rfl
  exact ⟨⟨_, fd, ["kind", "count"], h.glo 37 rfl, F.kp, F.bindsN fun _ _ _ _ _ _ us hl => match us, hl with | [_, _], _ => rfl, fg_sizes h F⟩⟩
theorem fg_law_begun {P : Program} {w : World} {K : PySem.W.Frag} {mg : Str → Option Value} {base : Heap} (h : Hd hfa hfn K mg) {f : Addr} {fd : FuncData} {dvs : List V} {kws : List (Str × V)} (F : FunD K d_law_begun.name d_law_begun.qual d_law_begun.params d_law_begun.body d_law_begun.scope dvs kws f fd) :
    FnG P w K mg base (L2.CX P w) 1 f fd ["script"] (spG K mg [none] (.ow (oA K)) D_law_begun) := by
  refine fnB_ok (N := ["script", "cell"]) (ps := ["script"]) (ks := [none]) (m := 1) F sc_law_begun rfl rfl (fun z => nomatch z) rfl fun cdv A outer s H vs E hv cx po => ?_
  let X : Cx := cxOf (L2.CX P w) P w K mg base ["script", "cell"] d_law_begun.qual d_law_begun.scope f cdv A outer s H E
  have hN : (["script", "cell"] : List Str).Nodup := sc_law_begun.nd
  match vs, hv with
  | [v0], _ =>
    refine ⟨[.no, .no], Wk.refl _, ?_⟩
    let J : Jx := ⟨[.no, .no], (.ow (oA K)), [.no, .no], fun cls d _ H => E cls d H, [], []⟩
    show QSs X J [.sh, .no] _ _ _
    refine qss_one (qs_retA (X := X) (J := J) (qe_frz (X := X) (qe_callTy (X := X) (cd_list) (by rfl) (h.free 21 rfl) b_list (qa_cons (X := X) (qe_v (X := X) 0 (by rfl) (pv 0)) qa_nil))) (qe_lc (X := X) (κ := [.sh, .no]) (own := [("cell", 1)]) (κ1 := [.sh, .sh]) cx.calm hN (qi_v (X := X) (qe_v (X := X) 0 (by rfl) (pv 0))) (by exact blk_of (N := ["script", "cell"]) (sc := d_law_begun.scope) (by decide +kernel)) (by unfold NoOw; simp) (by rfl) (fun s1 H1 C1 cl1 fp1 => (qg_name (X := (Cx.blk X s1 H1 _ (compEnvC _ cl1 C1 (Cx.env X)) fp1)) (κ := [.sh, .no]) (i := 1) hN (by rfl) (by first | exact .inl (by rfl) | exact .inr (by rfl)))) (fun s1 H1 C1 cl1 fp1 => (qts_one (X := (Cx.blk X s1 H1 _ (compEnvC _ cl1 C1 (Cx.env X)) fp1)) (qt_cmp (X := (Cx.blk X s1 H1 _ (compEnvC _ cl1 C1 (Cx.env X)) fp1)) (od_ge cx.u64) (qe_v (X := (Cx.blk X s1 H1 _ (compEnvC _ cl1 C1 (Cx.env X)) fp1)) 1 (by rfl) (pv 1)) (qe_op (X := (Cx.blk X s1 H1 _ (compEnvC _ cl1 C1 (Cx.env X)) fp1)) od_pow qe_int qe_int) (nomark _)))) (fun s1 H1 C1 cl1 fp1 => (qe_v (X := (Cx.blk X s1 H1 _ (compEnvC _ cl1 C1 (Cx.env X)) fp1)) 1 (by rfl) (pv 1)))) (by rfl) (.drop (.keep .nil)) (.drop (.keep .nil)))
theorem ok_law_begun {P : Program} {w : World} {K : PySem.W.Frag} {mg : Str → Option Value} {base : Heap} (h : Hd hfa hfn K mg) : GFn P w K mg base "_law_begun" 1 [none] (.ow (oA K)) D_law_begun := by
  obtain ⟨fd, F⟩ := h.def_ 15 (d := d_law_begun) rfl
  exact ⟨⟨_, fd, ["script"], h.glo 38 rfl, F.kp, F.bindsN fun _ _ _ _ _ _ us hl => match us, hl with | [_], _ => rfl, fg_law_begun h F⟩⟩
theorem fg_law_next {P : Program} {w : World} {K : PySem.W.Frag} {mg : Str → Option Value} {base : Heap} (h : Hd hfa hfn K mg) {f : Addr} {fd : FuncData} {dvs : List V} {kws : List (Str × V)} (F : FunD K d_law_next.name d_law_next.qual d_law_next.params d_law_next.body d_law_next.scope dvs kws f fd) :
    FnG P w K mg base (L2.CX P w) 1 f fd ["m", "total"] (spG K mg [some (oA K), none] .sh D_law_next) := by
  refine fnB_ok (N := ["m", "total", "rest", "k", "cell", "mixed"]) (ps := ["m", "total"]) (ks := [some (oA K), none]) (m := 4) F sc_law_next rfl rfl (fun z => nomatch z) rfl fun cdv A outer s H vs E hv cx po => ?_
  let X : Cx := cxOf (L2.CX P w) P w K mg base ["m", "total", "rest", "k", "cell", "mixed"] d_law_next.qual d_law_next.scope f cdv A outer s H E
  have hN : (["m", "total", "rest", "k", "cell", "mixed"] : List Str).Nodup := sc_law_next.nd
  match vs, hv with
  | [v0, v1], _ =>
    refine ⟨[(.ow (fun x => x = v0) (oA K)), .no, .no, .no, .no, .no], Wk.refl _, ?_⟩
    let J : Jx := ⟨[(.ow (fun x => x = v0) (oA K)), .no, .no, .no, .no, .no], .sh, [(.ow (fun x => x = v0) (oA K)), .no, .no, .no, .no, .no], fun cls d _ H => E cls d H, [], []⟩
    show QSs X J [(.ow (fun x => x = v0) (oA K)), .sh, .no, .no, .no, .no] _ _ _
    refine qss_cons (κ1 := [(.ow (fun x => x = v0) (oA K)), .sh, .no, .no, .no, .no]) (qs_while (X := X) (J := J) (f := (sPutM 0 1 (eSl dSlL (eM 0 1) (oSome (eK (.int 1))) oNone))) 100000000 po (qt_w (X := X) (qw_and (X := X) (qt_cmp (X := X) (od_ne cx.u64) (qe_aG (X := X) 0 cx.u64 (by rfl) (pv 0)) (qe_pk (X := X) looks_lst (qe_lst (X := X) qa_nil)) (nomark _)) (qw_and1 (X := X) (qt_cmp (X := X) (od_eq cx.u64) (qe_ix (X := X) ixd (qe_aG (X := X) 0 cx.u64 (by rfl) (pv 0)) qe_int (fun _ _ => (by rfl))) qe_int (nomark _))))) ?_ (.keep (.drop (.keep (.keep (.keep (.keep .nil))))))) ?_
    · refine qss_one (qs_aG (X := X) (J := { J with κb := [(.ow (fun x => x = v0) (oA K)), .sh, .no, .no, .no, .no], κc := [(.ow (fun x => x = v0) (oA K)), .sh, .no, .no, .no, .no] }) 0 cx.u64 (by rfl) (pv 0) (qe_sl (X := X) sld_l (qe_aG (X := X) 0 cx.u64 (by rfl) (pv 0)) (qo_some (X := X) qe_int) qo_none) (.keep (.drop (.keep (.keep (.keep (.keep .nil)))))))
    refine qss_cons (κ1 := [(.ow (fun x => x = v0) (oA K)), .sh, .no, .no, .no, .no]) (qs_if (X := X) (J := J) (f := (sSeq (sSet 2 (eCB dInt (aCons (eBin dIx (eM 0 1) (eK (.int 0))) aNil))) (sSeq (sPutG0 0 0 (eBin dDiv (eV 2) (eV 1))) (sRet (eBin dMod (eV 2) (eV 1)))))) (g := sNil) (qt_cmp (X := X) (od_ne cx.u64) (qe_aG (X := X) 0 cx.u64 (by rfl) (pv 0)) (qe_pk (X := X) looks_lst (qe_lst (X := X) qa_nil)) (nomark _)) ?_ ?_ (.keep (.drop (.keep (.keep (.keep (.keep .nil))))))) ?_
    · refine qss_cons (κ1 := [(.ow (fun x => x = v0) (oA K)), .sh, .sh, .no, .no, .no]) (qs_set (X := X) (J := J) (i := 2) (rk := .sh) hN (by rfl) (by first | exact .inl (by rfl) | exact .inr (by rfl)) (qe_callTy (X := X) (cd_int) (by rfl) (h.free 1 rfl) b_int (qa_cons (X := X) (qe_ix (X := X) ixd (qe_aG (X := X) 0 cx.u64 (by rfl) (pv 0)) qe_int (fun _ _ => (by rfl))) qa_nil)) (.keep (.drop (.keep (.keep (.keep (.keep .nil))))))) ?_
      refine qss_cons (κ1 := [(.ow (fun x => x = v0) (oA K)), .sh, .sh, .no, .no, .no]) (qs_aG0 (X := X) (J := J) 0 cx.u64 (by rfl) (pv 0) (qe_op (X := X) od_div (qe_v (X := X) 2 (by rfl) (pv 2)) (qe_v (X := X) 1 (by rfl) (pv 1))) (.keep (.drop (.drop (.keep (.keep (.keep .nil))))))) ?_
      refine qss_one (qs_ret (X := X) (J := J) (qe_op (X := X) od_mod (qe_v (X := X) 2 (by rfl) (pv 2)) (qe_v (X := X) 1 (by rfl) (pv 1))) (.keep (.drop (.drop (.keep (.keep (.keep .nil)))))) (.keep (.drop (.drop (.keep (.keep (.keep .nil)))))))
    · exact qss_nil
    refine qss_cons (κ1 := [(.ow (fun x => x = v0) (oA K)), .sh, .no, .sh, .no, .no]) (qs_set (X := X) (J := J) (i := 3) (rk := .sh) hN (by rfl) (by first | exact .inl (by rfl) | exact .inr (by rfl)) (qe_op (X := X) od_add (qe_aS (X := X) 0 cx.u64 (by rfl) (pv 0)) qe_int) (.keep (.drop (.keep (.keep (.keep (.keep .nil))))))) ?_
    refine qss_cons (κ1 := [(.ow (fun x => x = v0) (oA K)), .sh, .no, .sh, .no, .no]) (qs_aS (X := X) (J := J) 0 cx.u64 (by rfl) (pv 0) (qe_v (X := X) 3 (by rfl) (pv 3)) (.keep (.drop (.keep (.drop (.keep (.keep .nil))))))) ?_
    refine qss_cons (κ1 := [(.ow (fun x => x = v0) (oA K)), .sh, .no, .sh, .sh, .no]) (qs_set (X := X) (J := J) (i := 4) (rk := .sh) hN (by rfl) (by first | exact .inl (by rfl) | exact .inr (by rfl)) (qe_if (X := X) (qt_cmp (X := X) (od_ne cx.u64) (qe_aC (X := X) 0 cx.u64 (by rfl) (pv 0)) (qe_pk (X := X) looks_lst (qe_lst (X := X) qa_nil)) (nomark _)) (qe_ix (X := X) ixd (qe_aC (X := X) 0 cx.u64 (by rfl) (pv 0)) (qe_op (X := X) od_mod (qe_callTy (X := X) (cd_int) (by rfl) (h.free 1 rfl) b_int (qa_cons (X := X) (qe_v (X := X) 3 (by rfl) (pv 3)) qa_nil)) (qe_callB (X := X) (cd_len) (by rfl) (h.free 9 rfl) b_len (qa_cons (X := X) (qe_aC (X := X) 0 cx.u64 (by rfl) (pv 0)) qa_nil))) (fun _ _ => (by rfl))) qe_int) (.keep (.drop (.keep (.drop (.keep (.keep .nil))))))) ?_
    refine qss_cons (κ1 := [(.ow (fun x => x = v0) (oA K)), .sh, .no, .sh, .sh, .sh]) (qs_set (X := X) (J := J) (i := 5) (rk := .sh) hN (by rfl) (by first | exact .inl (by rfl) | exact .inr (by rfl)) (qe_op (X := X) od_mul (qe_callTy (X := X) (cd_int) (by rfl) (h.free 1 rfl) b_int (qa_cons (X := X) (qe_op (X := X) od_add (qe_op (X := X) od_add (qe_op (X := X) od_mod (qe_callTy (X := X) (cd_int) (by rfl) (h.free 1 rfl) b_int (qa_cons (X := X) (qe_v (X := X) 4 (by rfl) (pv 4)) qa_nil)) qe_int) (qe_op (X := X) od_mul qe_int (qe_v (X := X) 3 (by rfl) (pv 3)))) (qe_op (X := X) od_mul (qe_op (X := X) od_mul qe_int (qe_v (X := X) 3 (by rfl) (pv 3))) (qe_v (X := X) 3 (by rfl) (pv 3)))) qa_nil)) qe_int) (.keep (.drop (.keep (.drop (.drop (.keep .nil))))))) ?_
    refine qss_cons (κ1 := [(.ow (fun x => x = v0) (oA K)), .sh, .no, .sh, .sh, .sh]) (qs_set (X := X) (J := J) (i := 5) (rk := .sh) hN (by rfl) (by first | exact .inl (by rfl) | exact .inr (by rfl)) (qe_op (X := X) od_mul (qe_callTy (X := X) (cd_int) (by rfl) (h.free 1 rfl) b_int (qa_cons (X := X) (qe_op (X := X) od_add (qe_op (X := X) od_mod (qe_callTy (X := X) (cd_int) (by rfl) (h.free 1 rfl) b_int (qa_cons (X := X) (qe_v (X := X) 5 (by rfl) (pv 5)) qa_nil)) qe_int) (qe_op (X := X) od_mul qe_int (qe_v (X := X) 3 (by rfl) (pv 3)))) qa_nil)) qe_int) (.keep (.drop (.keep (.drop (.drop (.drop .nil))))))) ?_
    refine qss_one (qs_ret (X := X) (J := J) (qe_op (X := X) od_mod (qe_callTy (X := X) (cd_int) (by rfl) (h.free 1 rfl) b_int (qa_cons (X := X) (qe_op (X := X) od_div (qe_op (X := X) od_mod (qe_callTy (X := X) (cd_int) (by rfl) (h.free 1 rfl) b_int (qa_cons (X := X) (qe_v (X := X) 5 (by rfl) (pv 5)) qa_nil)) qe_int) qe_int) qa_nil)) (qe_v (X := X) 1 (by rfl) (pv 1))) (.keep (.drop (.keep (.drop (.drop (.drop .nil)))))) (.keep (.drop (.keep (.drop (.drop (.drop .nil)))))))
theorem ok_law_next {P : Program} {w : World} {K : PySem.W.Frag} {mg : Str → Option Value} {base : Heap} (h : Hd hfa hfn K mg) : GFn P w K mg base "_law_next" 1 [some (oA K), none] .sh D_law_next := by
  obtain ⟨fd, F⟩ := h.def_ 16 (d := d_law_next) rfl
  exact ⟨⟨_, fd, ["m", "total"], h.glo 39 rfl, F.kp, F.bindsN fun _ _ _ _ _ _ us hl => match us, hl with | [_, _], _ => rfl, fg_law_next h F⟩⟩
theorem fg_law_kind {P : Program} {w : World} {K : PySem.W.Frag} {mg : Str → Option Value} {base : Heap} (h : Hd hfa hfn K mg) {f : Addr} {fd : FuncData} {dvs : List V} {kws : List (Str × V)} (F : FunD K d_law_kind.name d_law_kind.qual d_law_kind.params d_law_kind.body d_law_kind.scope dvs kws f fd) :
    FnG P w K mg base (L2.CX P w) 2 f fd ["m"] (spG K mg [some (oA K)] .sh D_law_kind) := by
  refine fnB_ok (N := ["m", "word"]) (ps := ["m"]) (ks := [some (oA K)]) (m := 1) F sc_law_kind rfl rfl (fun z => nomatch z) rfl fun cdv A outer s H vs E hv cx po => ?_
  let X : Cx := cxOf (L2.CX P w) P w K mg base ["m", "word"] d_law_kind.qual d_law_kind.scope f cdv A outer s H E
  have hN : (["m", "word"] : List Str).Nodup := sc_law_kind.nd
  match vs, hv with
  | [v0], _ =>
    refine ⟨[(.ow (fun x => x = v0) (oA K)), .no], Wk.refl _, ?_⟩
    let J : Jx := ⟨[(.ow (fun x => x = v0) (oA K)), .no], .sh, [(.ow (fun x => x = v0) (oA K)), .no], fun cls d _ H => E cls d H, [], []⟩
    show QSs X J [(.ow (fun x => x = v0) (oA K)), .no] _ _ _
    refine qss_cons (κ1 := [(.ow (fun x => x = v0) (oA K)), .sh]) (qs_set (X := X) (J := J) (i := 1) (rk := .sh) hN (by rfl) (by first | exact .inl (by rfl) | exact .inr (by rfl)) (qe_ix (X := X) ixd (qe_frz (X := X) (qe_lst (X := X) (qa_cons (X := X) qe_str (qa_cons (X := X) qe_str (qa_cons (X := X) qe_str (qa_cons (X := X) qe_str qa_nil)))))) (qe_callF (X := X) cx (ok_law_next h) (by decide) (by rfl) (qp_io (X := X) 0 (by rfl) (pv 0) (qp_sh (X := X) qe_int qp_nil)) (noTwice_of (by decide))) (fun _ _ => (by rfl))) (.keep (.keep .nil))) ?_
    refine qss_one (qs_ret (X := X) (J := J) (qe_if (X := X) (qt_cmp (X := X) (od_eq cx.u64) (qe_v (X := X) 1 (by rfl) (pv 1)) qe_str (nomark _)) (qe_tup (X := X) (qa_cons (X := X) (qe_v (X := X) 1 (by rfl) (pv 1)) qa_nil)) (qe_tup (X := X) (qa_cons (X := X) (qe_v (X := X) 1 (by rfl) (pv 1)) (qa_cons (X := X) (qe_op (X := X) od_add qe_int (qe_callF (X := X) cx (ok_law_next h) (by decide) (by rfl) (qp_io (X := X) 0 (by rfl) (pv 0) (qp_sh (X := X) (qe_ix (X := X) ixd (qe_frz (X := X) (qe_lst (X := X) (qa_cons (X := X) qe_int (qa_cons (X := X) qe_int qa_nil)))) (qe_callF (X := X) cx (ok_law_next h) (by decide) (by rfl) (qp_io (X := X) 0 (by rfl) (pv 0) (qp_sh (X := X) qe_int qp_nil)) (noTwice_of (by decide))) (fun _ _ => (by rfl))) qp_nil)) (noTwice_of (by decide)))) qa_nil)))) (.keep (.drop .nil)) (.keep (.drop .nil)))
theorem ok_law_kind {P : Program} {w : World} {K : PySem.W.Frag} {mg : Str → Option Value} {base : Heap} (h : Hd hfa hfn K mg) : GFn P w K mg base "_law_kind" 2 [some (oA K)] .sh D_law_kind := by
  obtain ⟨fd, F⟩ := h.def_ 17 (d := d_law_kind) rfl
  exact ⟨⟨_, fd, ["m"], h.glo 40 rfl, F.kp, F.bindsN fun _ _ _ _ _ _ us hl => match us, hl with | [_], _ => rfl, fg_law_kind h F⟩⟩
theorem fg_law_most_row {P : Program} {w : World} {K : PySem.W.Frag} {mg : Str → Option Value} {base : Heap} (h : Hd hfa hfn K mg) {f : Addr} {fd : FuncData} {dvs : List V} {kws : List (Str × V)} (F : FunD K d_law_most_row.name d_law_most_row.qual d_law_most_row.params d_law_most_row.body d_law_most_row.scope dvs kws f fd) :
    FnG P w K mg base (L2.CX P w) 1 f fd ["calls", "total"] (spG K mg [none, none] .sh D_law_most_row) := by
  refine fnB_ok (N := ["calls", "total", "row"]) (ps := ["calls", "total"]) (ks := [none, none]) (m := 1) F sc_law_most_row rfl rfl (fun z => nomatch z) rfl fun cdv A outer s H vs E hv cx po => ?_
  let X : Cx := cxOf (L2.CX P w) P w K mg base ["calls", "total", "row"] d_law_most_row.qual d_law_most_row.scope f cdv A outer s H E
  have hN : (["calls", "total", "row"] : List Str).Nodup := sc_law_most_row.nd
  match vs, hv with
  | [v0, v1], _ =>
    refine ⟨[.no, .no, .no], Wk.refl _, ?_⟩
    let J : Jx := ⟨[.no, .no, .no], .sh, [.no, .no, .no], fun cls d _ H => E cls d H, [], []⟩
    show QSs X J [.sh, .sh, .no] _ _ _
    refine qss_cons (κ1 := [.sh, .sh, (.ow (fun x => True) (oLst K))]) (qs_set (X := X) (J := J) (i := 2) (rk := (.ow (oLst K))) hN (by rfl) (by first | exact .inl (by rfl) | exact .inr (by rfl)) (qe_lst (X := X) (qa_cons (X := X) qe_int qa_nil)) (.drop (.drop (.keep .nil)))) ?_
    refine qss_cons (κ1 := [.sh, .sh, (.ow (fun x => True) (oLst K))]) (qs_while (X := X) (J := J) (f := (sDrop (eAppend 2 (eBin dAdd (eK (.int 1)) (eCB dSum (aCons (eIf (eTst asB (eBin dIsN (eV 0) (eK .none))) (eV 2) (eSl dSlL (eV 2) (oSome (eCB dMax (aCons (eK (.int 0)) (aCons (eBin dSub (eCB dLen (aCons (eV 2) aNil)) (eV 0)) aNil)))) oNone)) aNil)))))) 100000000 po (qt_cmp (X := X) (od_lt cx.u64) (qe_ix (X := X) ixd (qe_vp (X := X) 2 (by rfl) looks_lst (pv 2)) (qe_neg (X := X) qe_int) (fun _ _ => (by rfl))) (qe_v (X := X) 1 (by rfl) (pv 1)) (nomark _)) ?_ (.drop (.drop (.drop .nil)))) ?_
    · refine qss_one (qs_expr (X := X) (J := { J with κb := [.sh, .sh, (.ow (fun x => True) (oLst K))], κc := [.sh, .sh, (.ow (fun x => True) (oLst K))] }) (qe_append (X := X) 2 (by rfl) (pv 2) (qe_op (X := X) od_add qe_int (qe_callB (X := X) (cd_sum cx.calm) (by rfl) (h.free 18 rfl) b_sum (qa_cons (X := X) (qe_if (X := X) (qt_cmp (X := X) od_isN (qe_v (X := X) 0 (by rfl) (pv 0)) qe_non (nomark _)) (qe_vp (X := X) 2 (by rfl) looks_lst (pv 2)) (qe_pk (X := X) looks_lst (qe_sl (X := X) sld_l (qe_vp (X := X) 2 (by rfl) looks_lst (pv 2)) (qo_some (X := X) (qe_callB (X := X) (cd_max cx.calm cx.u65) (by rfl) (h.free 17 rfl) b_max (qa_cons (X := X) qe_int (qa_cons (X := X) (qe_op (X := X) od_sub (qe_callB (X := X) (cd_len) (by rfl) (h.free 9 rfl) b_len (qa_cons (X := X) (qe_vp (X := X) 2 (by rfl) looks_lst (pv 2)) qa_nil)) (qe_v (X := X) 0 (by rfl) (pv 0))) qa_nil)))) qo_none))) qa_nil)))) (.drop (.drop (.drop .nil))))
    refine qss_frz 2 (c := fun _ => True) (by rfl) ?_
    show QSs X _ [.sh, .sh, .sh] _ _ _
    refine qss_one (qs_ret (X := X) (J := J) (qe_v (X := X) 2 (by rfl) (pv 2)) (.drop (.drop (.drop .nil))) (.drop (.drop (.drop .nil))))
theorem ok_law_most_row {P : Program} {w : World} {K : PySem.W.Frag} {mg : Str → Option Value} {base : Heap} (h : Hd hfa hfn K mg) : GFn P w K mg base "_law_most_row" 1 [none, none] .sh D_law_most_row := by
  obtain ⟨fd, F⟩ := h.def_ 18 (d := d_law_most_row) rfl
  exact ⟨⟨_, fd, ["calls", "total"], h.glo 41 rfl, F.kp, F.bindsN fun _ _ _ _ _ _ us hl => match us, hl with | [_, _], _ => rfl, fg_law_most_row h F⟩⟩
theorem fg_law_below {P : Program} {w : World} {K : PySem.W.Frag} {mg : Str → Option Value} {base : Heap} (h : Hd hfa hfn K mg) {f : Addr} {fd : FuncData} {dvs : List V} {kws : List (Str × V)} (F : FunD K d_law_below.name d_law_below.qual d_law_below.params d_law_below.body d_law_below.scope dvs kws f fd) :
    FnG P w K mg base (L2.CX P w) 1 f fd ["number", "count"] (spG K mg [none, none] .sh D_law_below) := by
  refine fnB_ok (N := ["number", "count", "level", "rest", "found", "k", "more", "one"]) (ps := ["number", "count"]) (ks := [none, none]) (m := 6) F sc_law_below rfl rfl (fun z => nomatch z) rfl fun cdv A outer s H vs E hv cx po => ?_
  let X : Cx := cxOf (L2.CX P w) P w K mg base ["number", "count", "level", "rest", "found", "k", "more", "one"] d_law_below.qual d_law_below.scope f cdv A outer s H E
  have hN : (["number", "count", "level", "rest", "found", "k", "more", "one"] : List Str).Nodup := sc_law_below.nd
  match vs, hv with
  | [v0, v1], _ =>
    refine ⟨[.no, .no, .no, .no, .no, .no, .no, .no], Wk.refl _, ?_⟩
    let J : Jx := ⟨[.no, .no, .no, .no, .no, .no, .no, .no], .sh, [.no, .no, .no, .no, .no, .no, .no, .no], fun cls d _ H => E cls d H, [], []⟩
    show QSs X J [.sh, .sh, .no, .no, .no, .no, .no, .no] _ _ _
    refine qss_cons (κ1 := [.sh, .sh, .sh, .sh, (.ow (fun x => True) (oLst K)), .no, .no, .no]) (qs_par3L (X := X) (J := J) (rc := (.ow (oLst K))) (i := 2) (j := 3) (l := 4) cx.calm hN (by rfl) (by rfl) (by rfl) (by decide) (by decide) (by decide) (by rfl) (by rfl) (by rfl) qe_int (qe_v (X := X) 1 (by rfl) (pv 1)) (qe_repL (X := X) (qe_lst (X := X) (qa_cons (X := X) qe_int qa_nil)) (qe_v (X := X) 0 (by rfl) (pv 0))) (.drop (.drop (.keep (.keep (.keep (.keep (.keep (.keep .nil)))))))) (by rfl)) ?_
    refine qss_cons (κ1 := [.sh, .sh, .sh, .sh, (.ow (fun x => True) (oLst K)), .no, .no, .no]) (qs_while (X := X) (J := J) (f := (sSeq (sFor (aft1 rng1 (aCons (eV 0) aNil)) (gN 5) (sSeq (sSet 6 (eCB dMin (aCons (eV 2) (aCons (eV 3) aNil)))) (sSeq (sAsg (eTup (aCons (eBin dAdd (eBin dIx (eV 4) (eV 5)) (eV 6)) (aCons (eBin dSub (eV 3) (eV 6)) aNil))) (gT 2 (gC (putLd 4 (eV 5)) (gC (gN 3) gNi)))) (sClr [5, 6] sNil)))) (sSet 2 (eBin dMul (eV 2) (eV 0))))) 100000000 po (qt_cmp (X := X) (od_gt cx.u64) (qe_v (X := X) 3 (by rfl) (pv 3)) qe_int (nomark _)) ?_ (.drop (.drop (.drop (.drop (.drop (.keep (.keep (.keep .nil))))))))) ?_
    · refine qss_cons (κ1 := [.sh, .sh, .sh, .sh, (.ow (fun x => True) (oLst K)), .no, .no, .no]) (qs_for (X := X) (J := { J with κb := [.sh, .sh, .sh, .sh, (.ow (fun x => True) (oLst K)), .no, .no, .no], κc := [.sh, .sh, .sh, .sh, (.ow (fun x => True) (oLst K)), .no, .no, .no] }) (is := [0, 1, 2, 3, 4, 5, 6, 7]) (κ1 := [.sh, .sh, .sh, .sh, (.ow (fun x => True) (oLst K)), .sh, .no, .no]) (f := (sSeq (sSet 6 (eCB dMin (aCons (eV 2) (aCons (eV 3) aNil)))) (sSeq (sAsg (eTup (aCons (eBin dAdd (eBin dIx (eV 4) (eV 5)) (eV 6)) (aCons (eBin dSub (eV 3) (eV 6)) aNil))) (gT 2 (gC (putLd 4 (eV 5)) (gC (gN 3) gNi)))) (sClr [5, 6] sNil)))) po cx.calm (qi_range1 (X := X) (by rfl) (h.free 16 rfl) (qa_cons (X := X) (qe_v (X := X) 0 (by rfl) (pv 0)) qa_nil)) (qg_name (X := X) (κ := [.sh, .sh, .sh, .sh, (.ow (fun x => True) (oLst K)), .no, .no, .no]) (i := 5) hN (by rfl) (by first | exact .inl (by rfl) | exact .inr (by rfl))) ?_ (.drop (.drop (.drop (.drop (.drop (.keep (.keep (.keep .nil))))))))) ?_
      · refine qss_cons (κ1 := [.sh, .sh, .sh, .sh, (.ow (fun x => True) (oLst K)), .sh, .sh, .no]) (qs_set (X := X) (J := { { J with κb := [.sh, .sh, .sh, .sh, (.ow (fun x => True) (oLst K)), .no, .no, .no], κc := [.sh, .sh, .sh, .sh, (.ow (fun x => True) (oLst K)), .no, .no, .no] } with κb := [.sh, .sh, .sh, .sh, (.ow (fun x => True) (oLst K)), .no, .no, .no], κc := [.sh, .sh, .sh, .sh, (.ow (fun x => True) (oLst K)), .no, .no, .no] }) (i := 6) (rk := .sh) hN (by rfl) (by first | exact .inl (by rfl) | exact .inr (by rfl)) (qe_callB (X := X) (cd_min cx.calm cx.u65) (by rfl) (h.free 20 rfl) b_min (qa_cons (X := X) (qe_v (X := X) 2 (by rfl) (pv 2)) (qa_cons (X := X) (qe_v (X := X) 3 (by rfl) (pv 3)) qa_nil))) (.drop (.drop (.drop (.drop (.drop (.drop (.keep (.keep .nil))))))))) ?_
        refine qss_cons (κ1 := [.sh, .sh, .sh, .sh, (.ow (fun x => True) (oLst K)), .sh, .sh, .no]) (qs_asgW (X := X) (J := { { J with κb := [.sh, .sh, .sh, .sh, (.ow (fun x => True) (oLst K)), .no, .no, .no], κc := [.sh, .sh, .sh, .sh, (.ow (fun x => True) (oLst K)), .no, .no, .no] } with κb := [.sh, .sh, .sh, .sh, (.ow (fun x => True) (oLst K)), .no, .no, .no], κc := [.sh, .sh, .sh, .sh, (.ow (fun x => True) (oLst K)), .no, .no, .no] }) (qe_tup (X := X) (qa_cons (X := X) (qe_op (X := X) od_add (qe_ix (X := X) ixd (qe_vp (X := X) 4 (by rfl) looks_lst (pv 4)) (qe_v (X := X) 5 (by rfl) (pv 5)) (fun _ _ => (by rfl))) (qe_v (X := X) 6 (by rfl) (pv 6))) (qa_cons (X := X) (qe_op (X := X) od_sub (qe_v (X := X) 3 (by rfl) (pv 3)) (qe_v (X := X) 6 (by rfl) (pv 6))) qa_nil))) (qgw_tup (X := X) cx.calm (qgws_cons (X := X) (qgw_putL (X := X) (c := fun _ => True) 4 (by rfl) (pv 4) (qe_v (X := X) 5 (by rfl) (pv 5))) (qgws_cons (X := X) (qgw_of (X := X) (is := [0, 1, 2, 3, 4, 5, 6, 7]) (qg_name (X := X) (κ := [.sh, .sh, .sh, .sh, (.ow (fun x => True) (oLst K)), .sh, .sh, .no]) (i := 3) hN (by rfl) (by first | exact .inl (by rfl) | exact .inr (by rfl)))) qgws_nil))) (.drop (.drop (.drop (.drop (.drop (.drop (.drop (.keep .nil))))))))) ?_
        exact qss_clr (is := [5, 6]) qss_nil (.keep (.keep (.keep (.keep (.keep (.drop (.drop (.keep .nil)))))))) (by simp)
      refine qss_one (qs_set (X := X) (J := { J with κb := [.sh, .sh, .sh, .sh, (.ow (fun x => True) (oLst K)), .no, .no, .no], κc := [.sh, .sh, .sh, .sh, (.ow (fun x => True) (oLst K)), .no, .no, .no] }) (i := 2) (rk := .sh) hN (by rfl) (by first | exact .inl (by rfl) | exact .inr (by rfl)) (qe_op (X := X) od_mul (qe_v (X := X) 2 (by rfl) (pv 2)) (qe_v (X := X) 0 (by rfl) (pv 0))) (.drop (.drop (.drop (.drop (.drop (.keep (.keep (.keep .nil)))))))))
    refine qss_frz 4 (c := fun _ => True) (by rfl) ?_
    show QSs X _ [.sh, .sh, .sh, .sh, .sh, .no, .no, .no] _ _ _
    refine qss_one (qs_ret (X := X) (J := J) (qe_frz (X := X) (qe_lc (X := X) (κ := [.sh, .sh, .sh, .sh, .sh, .no, .no, .no]) (own := [("one", 7)]) (κ1 := [.sh, .sh, .sh, .sh, .sh, .no, .no, .sh]) cx.calm hN (qi_v (X := X) (qe_v (X := X) 4 (by rfl) (pv 4))) (by exact blk_of (N := ["number", "count", "level", "rest", "found", "k", "more", "one"]) (sc := d_law_below.scope) (by decide +kernel)) (by unfold NoOw; simp) (by rfl) (fun s1 H1 C1 cl1 fp1 => (qg_name (X := (Cx.blk X s1 H1 _ (compEnvC _ cl1 C1 (Cx.env X)) fp1)) (κ := [.sh, .sh, .sh, .sh, .sh, .no, .no, .no]) (i := 7) hN (by rfl) (by first | exact .inl (by rfl) | exact .inr (by rfl)))) (fun s1 H1 C1 cl1 fp1 => (qts_one (X := (Cx.blk X s1 H1 _ (compEnvC _ cl1 C1 (Cx.env X)) fp1)) (qt_cmp (X := (Cx.blk X s1 H1 _ (compEnvC _ cl1 C1 (Cx.env X)) fp1)) (od_gt cx.u64) (qe_v (X := (Cx.blk X s1 H1 _ (compEnvC _ cl1 C1 (Cx.env X)) fp1)) 7 (by rfl) (pv 7)) qe_int (nomark _)))) (fun s1 H1 C1 cl1 fp1 => (qe_v (X := (Cx.blk X s1 H1 _ (compEnvC _ cl1 C1 (Cx.env X)) fp1)) 7 (by rfl) (pv 7))))) (.drop (.drop (.drop (.drop (.drop (.keep (.keep (.keep .nil)))))))) (.drop (.drop (.drop (.drop (.drop (.keep (.keep (.keep .nil)))))))))
theorem ok_law_below {P : Program} {w : World} {K : PySem.W.Frag} {mg : Str → Option Value} {base : Heap} (h : Hd hfa hfn K mg) : GFn P w K mg base "_law_below" 1 [none, none] .sh D_law_below := by
  obtain ⟨fd, F⟩ := h.def_ 19 (d := d_law_below) rfl
  exact ⟨⟨_, fd, ["number", "count"], h.glo 42 rfl, F.kp, F.bindsN fun _ _ _ _ _ _ us hl => match us, hl with | [_, _], _ => rfl, fg_law_below h F⟩⟩
theorem fg_law_sizes {P : Program} {w : World} {K : PySem.W.Frag} {mg : Str → Option Value} {base : Heap} (h : Hd hfa hfn K mg) {f : Addr} {fd : FuncData} {dvs : List V} {kws : List (Str × V)} (F : FunD K d_law_sizes.name d_law_sizes.qual d_law_sizes.params d_law_sizes.body d_law_sizes.scope dvs kws f fd) :
    FnG P w K mg base (L2.CX P w) 2 f fd ["kind", "count"] (spG K mg [none, none] .sh D_law_sizes) := by
  refine fnB_ok (N := ["kind", "count", "found", "left", "k", "size", "told"]) (ps := ["kind", "count"]) (ks := [none, none]) (m := 5) F sc_law_sizes rfl rfl (fun z => nomatch z) rfl fun cdv A outer s H vs E hv cx po => ?_
  let X : Cx := cxOf (L2.CX P w) P w K mg base ["kind", "count", "found", "left", "k", "size", "told"] d_law_sizes.qual d_law_sizes.scope f cdv A outer s H E
  have hN : (["kind", "count", "found", "left", "k", "size", "told"] : List Str).Nodup := sc_law_sizes.nd
  match vs, hv with
  | [v0, v1], _ =>
    refine ⟨[.no, .no, .no, .no, .no, .no, .no], Wk.refl _, ?_⟩
    let J : Jx := ⟨[.no, .no, .no, .no, .no, .no, .no], .sh, [.no, .no, .no, .no, .no, .no, .no], fun cls d _ H => E cls d H, [], []⟩
    show QSs X J [.sh, .sh, .no, .no, .no, .no, .no] _ _ _
    refine qss_cons (κ1 := [.sh, .sh, .sh, .sh, .no, .no, .no]) (qs_par (X := X) (J := J) (i := 2) (j := 3) cx.calm hN (by rfl) (by rfl) (by decide) (by rfl) (by rfl) (qa_cons (X := X) (qe_frz (X := X) (qe_lst (X := X) qa_nil)) (qa_cons (X := X) (qe_v (X := X) 1 (by rfl) (pv 1)) qa_nil)) (.drop (.drop (.keep (.keep (.keep (.keep (.keep .nil))))))) (by rfl)) ?_
    refine qss_cons (κ1 := [.sh, .sh, .sh, .sh, .no, .no, .no]) (qs_if (X := X) (J := J) (f := (sRet (eCall [none, none] (aCons (eBin dIx (eV 0) (eK (.int 1))) (aCons (eV 1) aNil)) D_law_below))) (g := sNil) (qt_cmp (X := X) (od_eq cx.u64) (qe_ix (X := X) ixd (qe_v (X := X) 0 (by rfl) (pv 0)) qe_int (fun _ _ => (by rfl))) qe_str (nomark _)) ?_ ?_ (.drop (.drop (.drop (.drop (.keep (.keep (.keep .nil)))))))) ?_
    · refine qss_one (qs_ret (X := X) (J := J) (qe_callF (X := X) cx (ok_law_below h) (by decide) (by rfl) (qp_sh (X := X) (qe_ix (X := X) ixd (qe_v (X := X) 0 (by rfl) (pv 0)) qe_int (fun _ _ => (by rfl))) (qp_sh (X := X) (qe_v (X := X) 1 (by rfl) (pv 1)) qp_nil)) (noTwice_of (by decide))) (.drop (.drop (.drop (.drop (.keep (.keep (.keep .nil))))))) (.drop (.drop (.drop (.drop (.keep (.keep (.keep .nil))))))))
    · exact qss_nil
    refine qss_cons (κ1 := [.sh, .sh, .sh, .sh, .no, .no, .no]) (qs_if (X := X) (J := J) (f := (sFor (aft1 rng1 (aCons (eCB dMin (aCons (eBin dIx (eV 0) (eK (.int 1))) (aCons (eV 1) aNil))) aNil)) (gN 4) (sSeq (sSet 5 (eBin dSub (eK (.int 0)) (eBin dDiv (eBin dSub (eK (.int 0)) (eV 3)) (eBin dSub (eCB dMin (aCons (eBin dIx (eV 0) (eK (.int 1))) (aCons (eV 1) aNil))) (eV 4))))) (sSeq (sPar 2 3 (aCons (eBin dAddL (eV 2) (eLst (aCons (eV 5) aNil))) (aCons (eBin dSub (eV 3) (eV 5)) aNil))) (sClr [4, 5] sNil))))) (g := (sIf (eTst asB (eBin dEq (eBin dIx (eV 0) (eK (.int 0))) (eK (.str "half")))) (sWhile (eTst asB (eBin dGt (eV 3) (eK (.int 0)))) (sSeq (sSet 5 (eBin dSub (eV 3) (eBin dDiv (eV 3) (eK (.int 2))))) (sSeq (sPar 2 3 (aCons (eBin dAddL (eV 2) (eLst (aCons (eV 5) aNil))) (aCons (eBin dSub (eV 3) (eV 5)) aNil))) (sClr [5] sNil))) 100000000) (sFor (iV (eUn dRevL (eSl dSlL (eCall [none, none] (aCons (eBin dIx (eV 0) (eK (.int 1))) (aCons (eBin dAdd (eV 1) (eK (.int 1))) aNil)) D_law_most_row) oNone (oSome (eNeg (eK (.int 1))))))) (gN 6) (sSeq (sSet 5 (eCB dMin (aCons (eV 6) (aCons (eV 3) aNil)))) (sSeq (sPar 2 3 (aCons (eBin dAddL (eV 2) (eIf (eTst asB (eBin dGt (eV 5) (eK (.int 0)))) (eLst (aCons (eV 5) aNil)) (eLst aNil))) (aCons (eBin dSub (eV 3) (eV 5)) aNil))) (sClr [5, 6] sNil)))))) (qt_cmp (X := X) (od_eq cx.u64) (qe_ix (X := X) ixd (qe_v (X := X) 0 (by rfl) (pv 0)) qe_int (fun _ _ => (by rfl))) qe_str (nomark _)) ?_ ?_ (.drop (.drop (.drop (.drop (.keep (.keep (.keep .nil)))))))) ?_
    · refine qss_one (qs_for (X := X) (J := J) (is := [0, 1, 2, 3, 4, 5, 6]) (κ1 := [.sh, .sh, .sh, .sh, .sh, .no, .no]) (f := (sSeq (sSet 5 (eBin dSub (eK (.int 0)) (eBin dDiv (eBin dSub (eK (.int 0)) (eV 3)) (eBin dSub (eCB dMin (aCons (eBin dIx (eV 0) (eK (.int 1))) (aCons (eV 1) aNil))) (eV 4))))) (sSeq (sPar 2 3 (aCons (eBin dAddL (eV 2) (eLst (aCons (eV 5) aNil))) (aCons (eBin dSub (eV 3) (eV 5)) aNil))) (sClr [4, 5] sNil)))) po cx.calm (qi_range1 (X := X) (by rfl) (h.free 16 rfl) (qa_cons (X := X) (qe_callB (X := X) (cd_min cx.calm cx.u65) (by rfl) (h.free 20 rfl) b_min (qa_cons (X := X) (qe_ix (X := X) ixd (qe_v (X := X) 0 (by rfl) (pv 0)) qe_int (fun _ _ => (by rfl))) (qa_cons (X := X) (qe_v (X := X) 1 (by rfl) (pv 1)) qa_nil))) qa_nil)) (qg_name (X := X) (κ := [.sh, .sh, .sh, .sh, .no, .no, .no]) (i := 4) hN (by rfl) (by first | exact .inl (by rfl) | exact .inr (by rfl))) ?_ (.drop (.drop (.drop (.drop (.keep (.keep (.keep .nil))))))))
      · refine qss_cons (κ1 := [.sh, .sh, .sh, .sh, .sh, .sh, .no]) (qs_set (X := X) (J := { J with κb := [.sh, .sh, .sh, .sh, .no, .no, .no], κc := [.sh, .sh, .sh, .sh, .no, .no, .no] }) (i := 5) (rk := .sh) hN (by rfl) (by first | exact .inl (by rfl) | exact .inr (by rfl)) (qe_op (X := X) od_sub qe_int (qe_op (X := X) od_div (qe_op (X := X) od_sub qe_int (qe_v (X := X) 3 (by rfl) (pv 3))) (qe_op (X := X) od_sub (qe_callB (X := X) (cd_min cx.calm cx.u65) (by rfl) (h.free 20 rfl) b_min (qa_cons (X := X) (qe_ix (X := X) ixd (qe_v (X := X) 0 (by rfl) (pv 0)) qe_int (fun _ _ => (by rfl))) (qa_cons (X := X) (qe_v (X := X) 1 (by rfl) (pv 1)) qa_nil))) (qe_v (X := X) 4 (by rfl) (pv 4))))) (.drop (.drop (.drop (.drop (.drop (.keep (.keep .nil)))))))) ?_
        refine qss_cons (κ1 := [.sh, .sh, .sh, .sh, .sh, .sh, .no]) (qs_par (X := X) (J := { J with κb := [.sh, .sh, .sh, .sh, .no, .no, .no], κc := [.sh, .sh, .sh, .sh, .no, .no, .no] }) (i := 2) (j := 3) cx.calm hN (by rfl) (by rfl) (by decide) (by rfl) (by rfl) (qa_cons (X := X) (qe_frz (X := X) (qe_op (X := X) od_addL (qe_v (X := X) 2 (by rfl) (pv 2)) (qe_pk (X := X) looks_lst (qe_lst (X := X) (qa_cons (X := X) (qe_v (X := X) 5 (by rfl) (pv 5)) qa_nil))))) (qa_cons (X := X) (qe_op (X := X) od_sub (qe_v (X := X) 3 (by rfl) (pv 3)) (qe_v (X := X) 5 (by rfl) (pv 5))) qa_nil)) (.drop (.drop (.drop (.drop (.drop (.drop (.keep .nil))))))) (by rfl)) ?_
        exact qss_clr (is := [4, 5]) qss_nil (.keep (.keep (.keep (.keep (.drop (.drop (.keep .nil))))))) (by simp)
    · refine qss_one (qs_if (X := X) (J := J) (f := (sWhile (eTst asB (eBin dGt (eV 3) (eK (.int 0)))) (sSeq (sSet 5 (eBin dSub (eV 3) (eBin dDiv (eV 3) (eK (.int 2))))) (sSeq (sPar 2 3 (aCons (eBin dAddL (eV 2) (eLst (aCons (eV 5) aNil))) (aCons (eBin dSub (eV 3) (eV 5)) aNil))) (sClr [5] sNil))) 100000000)) (g := (sFor (iV (eUn dRevL (eSl dSlL (eCall [none, none] (aCons (eBin dIx (eV 0) (eK (.int 1))) (aCons (eBin dAdd (eV 1) (eK (.int 1))) aNil)) D_law_most_row) oNone (oSome (eNeg (eK (.int 1))))))) (gN 6) (sSeq (sSet 5 (eCB dMin (aCons (eV 6) (aCons (eV 3) aNil)))) (sSeq (sPar 2 3 (aCons (eBin dAddL (eV 2) (eIf (eTst asB (eBin dGt (eV 5) (eK (.int 0)))) (eLst (aCons (eV 5) aNil)) (eLst aNil))) (aCons (eBin dSub (eV 3) (eV 5)) aNil))) (sClr [5, 6] sNil))))) (qt_cmp (X := X) (od_eq cx.u64) (qe_ix (X := X) ixd (qe_v (X := X) 0 (by rfl) (pv 0)) qe_int (fun _ _ => (by rfl))) qe_str (nomark _)) ?_ ?_ (.drop (.drop (.drop (.drop (.keep (.keep (.keep .nil))))))))
      · refine qss_one (qs_while (X := X) (J := J) (f := (sSeq (sSet 5 (eBin dSub (eV 3) (eBin dDiv (eV 3) (eK (.int 2))))) (sSeq (sPar 2 3 (aCons (eBin dAddL (eV 2) (eLst (aCons (eV 5) aNil))) (aCons (eBin dSub (eV 3) (eV 5)) aNil))) (sClr [5] sNil)))) 100000000 po (qt_cmp (X := X) (od_gt cx.u64) (qe_v (X := X) 3 (by rfl) (pv 3)) qe_int (nomark _)) ?_ (.drop (.drop (.drop (.drop (.keep (.keep (.keep .nil))))))))
        · refine qss_cons (κ1 := [.sh, .sh, .sh, .sh, .no, .sh, .no]) (qs_set (X := X) (J := { J with κb := [.sh, .sh, .sh, .sh, .no, .no, .no], κc := [.sh, .sh, .sh, .sh, .no, .no, .no] }) (i := 5) (rk := .sh) hN (by rfl) (by first | exact .inl (by rfl) | exact .inr (by rfl)) (qe_op (X := X) od_sub (qe_v (X := X) 3 (by rfl) (pv 3)) (qe_op (X := X) od_div (qe_v (X := X) 3 (by rfl) (pv 3)) qe_int)) (.drop (.drop (.drop (.drop (.keep (.keep (.keep .nil)))))))) ?_
          refine qss_cons (κ1 := [.sh, .sh, .sh, .sh, .no, .sh, .no]) (qs_par (X := X) (J := { J with κb := [.sh, .sh, .sh, .sh, .no, .no, .no], κc := [.sh, .sh, .sh, .sh, .no, .no, .no] }) (i := 2) (j := 3) cx.calm hN (by rfl) (by rfl) (by decide) (by rfl) (by rfl) (qa_cons (X := X) (qe_frz (X := X) (qe_op (X := X) od_addL (qe_v (X := X) 2 (by rfl) (pv 2)) (qe_pk (X := X) looks_lst (qe_lst (X := X) (qa_cons (X := X) (qe_v (X := X) 5 (by rfl) (pv 5)) qa_nil))))) (qa_cons (X := X) (qe_op (X := X) od_sub (qe_v (X := X) 3 (by rfl) (pv 3)) (qe_v (X := X) 5 (by rfl) (pv 5))) qa_nil)) (.drop (.drop (.drop (.drop (.keep (.drop (.keep .nil))))))) (by rfl)) ?_
          exact qss_clr (is := [5]) qss_nil (.keep (.keep (.keep (.keep (.keep (.drop (.keep .nil))))))) (by simp)
      · refine qss_one (qs_for (X := X) (J := J) (is := [0, 1, 2, 3, 4, 5, 6]) (κ1 := [.sh, .sh, .sh, .sh, .no, .no, .sh]) (f := (sSeq (sSet 5 (eCB dMin (aCons (eV 6) (aCons (eV 3) aNil)))) (sSeq (sPar 2 3 (aCons (eBin dAddL (eV 2) (eIf (eTst asB (eBin dGt (eV 5) (eK (.int 0)))) (eLst (aCons (eV 5) aNil)) (eLst aNil))) (aCons (eBin dSub (eV 3) (eV 5)) aNil))) (sClr [5, 6] sNil)))) po cx.calm (qi_v (X := X) (qe_frz (X := X) (qe_revL (X := X) (qe_pk (X := X) looks_lst (qe_sl (X := X) sld_l (qe_callF (X := X) cx (ok_law_most_row h) (by decide) (by rfl) (qp_sh (X := X) (qe_ix (X := X) ixd (qe_v (X := X) 0 (by rfl) (pv 0)) qe_int (fun _ _ => (by rfl))) (qp_sh (X := X) (qe_op (X := X) od_add (qe_v (X := X) 1 (by rfl) (pv 1)) qe_int) qp_nil)) (noTwice_of (by decide))) qo_none (qo_some (X := X) (qe_neg (X := X) qe_int))))))) (qg_name (X := X) (κ := [.sh, .sh, .sh, .sh, .no, .no, .no]) (i := 6) hN (by rfl) (by first | exact .inl (by rfl) | exact .inr (by rfl))) ?_ (.drop (.drop (.drop (.drop (.keep (.keep (.keep .nil))))))))
        · refine qss_cons (κ1 := [.sh, .sh, .sh, .sh, .no, .sh, .sh]) (qs_set (X := X) (J := { J with κb := [.sh, .sh, .sh, .sh, .no, .no, .no], κc := [.sh, .sh, .sh, .sh, .no, .no, .no] }) (i := 5) (rk := .sh) hN (by rfl) (by first | exact .inl (by rfl) | exact .inr (by rfl)) (qe_callB (X := X) (cd_min cx.calm cx.u65) (by rfl) (h.free 20 rfl) b_min (qa_cons (X := X) (qe_v (X := X) 6 (by rfl) (pv 6)) (qa_cons (X := X) (qe_v (X := X) 3 (by rfl) (pv 3)) qa_nil))) (.drop (.drop (.drop (.drop (.keep (.keep (.drop .nil)))))))) ?_
          refine qss_cons (κ1 := [.sh, .sh, .sh, .sh, .no, .sh, .sh]) (qs_par (X := X) (J := { J with κb := [.sh, .sh, .sh, .sh, .no, .no, .no], κc := [.sh, .sh, .sh, .sh, .no, .no, .no] }) (i := 2) (j := 3) cx.calm hN (by rfl) (by rfl) (by decide) (by rfl) (by rfl) (qa_cons (X := X) (qe_frz (X := X) (qe_op (X := X) od_addL (qe_v (X := X) 2 (by rfl) (pv 2)) (qe_pk (X := X) looks_lst (qe_if (X := X) (qt_cmp (X := X) (od_gt cx.u64) (qe_v (X := X) 5 (by rfl) (pv 5)) qe_int (nomark _)) (qe_lst (X := X) (qa_cons (X := X) (qe_v (X := X) 5 (by rfl) (pv 5)) qa_nil)) (qe_lst (X := X) qa_nil))))) (qa_cons (X := X) (qe_op (X := X) od_sub (qe_v (X := X) 3 (by rfl) (pv 3)) (qe_v (X := X) 5 (by rfl) (pv 5))) qa_nil)) (.drop (.drop (.drop (.drop (.keep (.drop (.drop .nil))))))) (by rfl)) ?_
          exact qss_clr (is := [5, 6]) qss_nil (.keep (.keep (.keep (.keep (.keep (.drop (.drop .nil))))))) (by simp)
    refine qss_one (qs_ret (X := X) (J := J) (qe_v (X := X) 2 (by rfl) (pv 2)) (.drop (.drop (.drop (.drop (.keep (.keep (.keep .nil))))))) (.drop (.drop (.drop (.drop (.keep (.keep (.keep .nil))))))))
theorem ok_law_sizes {P : Program} {w : World} {K : PySem.W.Frag} {mg : Str → Option Value} {base : Heap} (h : Hd hfa hfn K mg) : GFn P w K mg base "_law_sizes" 2 [none, none] .sh D_law_sizes := by
  obtain ⟨fd, F⟩ := h.def_ 20 (d := d_law_sizes) rfl
  exact ⟨⟨_, fd, ["kind", "count"], h.glo 43 rfl, F.kp, F.bindsN fun _ _ _ _ _ _ us hl => match us, hl with | [_, _], _ => rfl, fg_law_sizes h F⟩⟩
theorem fg_law_right {P : Program} {w : World} {K : PySem.W.Frag} {mg : Str → Option Value} {base : Heap} (h : Hd hfa hfn K mg) {f : Addr} {fd : FuncData} {dvs : List V} {kws : List (Str × V)} (F : FunD K d_law_right.name d_law_right.qual d_law_right.params d_law_right.body d_law_right.scope dvs kws f fd) :
    FnG P w K mg base (L2.CX P w) 5 f fd ["m", "kind"] (spG K mg [some (oA K), none] .sh D_law_right) := by
  refine fnB_ok (N := ["m", "kind", "counts", "count", "due"]) (ps := ["m", "kind"]) (ks := [some (oA K), none]) (m := 3) F sc_law_right rfl rfl (fun z => nomatch z) rfl fun cdv A outer s H vs E hv cx po => ?_
  let X : Cx := cxOf (L2.CX P w) P w K mg base ["m", "kind", "counts", "count", "due"] d_law_right.qual d_law_right.scope f cdv A outer s H E
  have hN : (["m", "kind", "counts", "count", "due"] : List Str).Nodup := sc_law_right.nd
  match vs, hv with
  | [v0, v1], _ =>
    refine ⟨[(.ow (fun x => x = v0) (oA K)), .no, .no, .no, .no], Wk.refl _, ?_⟩
    let J : Jx := ⟨[(.ow (fun x => x = v0) (oA K)), .no, .no, .no, .no], .sh, [(.ow (fun x => x = v0) (oA K)), .no, .no, .no, .no], fun cls d _ H => E cls d H, [], []⟩
    show QSs X J [(.ow (fun x => x = v0) (oA K)), .sh, .no, .no, .no] _ _ _
    refine qss_cons (κ1 := [(.ow (fun x => x = v0) (oA K)), .sh, .no, .no, .no]) (qs_if (X := X) (J := J) (f := (sRet (eK (.bool false)))) (g := sNil) (qt_cmp (X := X) (od_ne cx.u64) (qe_callF (X := X) cx (ok_need_kind h) (by decide) (by rfl) (qp_sh (X := X) (qe_v (X := X) 1 (by rfl) (pv 1)) qp_nil) (noTwice_of (by decide))) (qe_v (X := X) 1 (by rfl) (pv 1)) (nomark _)) ?_ ?_ (.keep (.drop (.keep (.keep (.keep .nil)))))) ?_
    · refine qss_one (qs_ret (X := X) (J := J) qe_bl (.keep (.drop (.keep (.keep (.keep .nil))))) (.keep (.drop (.keep (.keep (.keep .nil))))))
    · exact qss_nil
    refine qss_cons (κ1 := [(.ow (fun x => x = v0) (oA K)), .sh, .sh, .no, .no]) (qs_set (X := X) (J := J) (i := 2) (rk := .sh) hN (by rfl) (by first | exact .inl (by rfl) | exact .inr (by rfl)) (qe_frz (X := X) (qe_lst (X := X) (qa_cons (X := X) (qe_callF (X := X) cx (ok_law_next h) (by decide) (by rfl) (qp_io (X := X) 0 (by rfl) (pv 0) (qp_sh (X := X) qe_int qp_nil)) (noTwice_of (by decide))) (qa_cons (X := X) (qe_callF (X := X) cx (ok_law_next h) (by decide) (by rfl) (qp_io (X := X) 0 (by rfl) (pv 0) (qp_sh (X := X) (qe_op (X := X) od_pow qe_int qe_int) qp_nil)) (noTwice_of (by decide))) (qa_cons (X := X) (qe_op (X := X) od_sub (qe_op (X := X) od_pow qe_int qe_int) (qe_callF (X := X) cx (ok_law_next h) (by decide) (by rfl) (qp_io (X := X) 0 (by rfl) (pv 0) (qp_sh (X := X) (qe_op (X := X) od_pow qe_int qe_int) qp_nil)) (noTwice_of (by decide)))) (qa_cons (X := X) (qe_callF (X := X) cx (ok_law_next h) (by decide) (by rfl) (qp_io (X := X) 0 (by rfl) (pv 0) (qp_sh (X := X) (qe_op (X := X) od_pow qe_int qe_int) qp_nil)) (noTwice_of (by decide))) qa_nil)))))) (.keep (.drop (.keep (.keep (.keep .nil)))))) ?_
    refine qss_cons (κ1 := [(.ow (fun x => x = v0) (oA K)), .sh, .sh, .no, .no]) (qs_for (X := X) (J := J) (is := [0, 1, 2, 3, 4]) (κ1 := [(.ow (fun x => x = v0) (oA K)), .sh, .sh, .sh, .no]) (f := (sSeq (sSet 4 (eCall [none, none] (aCons (eV 1) (aCons (eV 3) aNil)) D_law_sizes)) (sSeq (sIf (bOr (eTst asB (eBin dNe (eCB dRepr (aCons (eCall [none, none] (aCons (eV 1) (aCons (eV 3) aNil)) D_sizes) aNil)) (eCB dRepr (aCons (eCB dTup (aCons (eV 4) aNil)) aNil)))) (eTst asB (eBin dNe (eCB dSum (aCons (eV 4) aNil)) (eV 3)))) (sRet (eK (.bool false))) sNil) (sClr [3, 4] sNil)))) po cx.calm (qi_v (X := X) (qe_frz (X := X) (qe_op (X := X) od_addL (qe_v (X := X) 2 (by rfl) (pv 2)) (qe_pk (X := X) looks_lst (qe_lst (X := X) (qa_cons (X := X) qe_int (qa_cons (X := X) qe_int (qa_cons (X := X) qe_int (qa_cons (X := X) (qe_if (X := X) (qt_cmp (X := X) (od_gt cx.u64) (qe_callB (X := X) (cd_len) (by rfl) (h.free 9 rfl) b_len (qa_cons (X := X) (qe_v (X := X) 1 (by rfl) (pv 1)) qa_nil)) qe_int (nomark _)) (qe_ix (X := X) ixd (qe_v (X := X) 1 (by rfl) (pv 1)) (qe_neg (X := X) qe_int) (fun _ _ => (by rfl))) qe_int) qa_nil))))))))) (qg_name (X := X) (κ := [(.ow (fun x => x = v0) (oA K)), .sh, .sh, .no, .no]) (i := 3) hN (by rfl) (by first | exact .inl (by rfl) | exact .inr (by rfl))) ?_ (.keep (.drop (.drop (.keep (.keep .nil)))))) ?_
    · refine qss_cons (κ1 := [(.ow (fun x => x = v0) (oA K)), .sh, .sh, .sh, .sh]) (qs_set (X := X) (J := { J with κb := [(.ow (fun x => x = v0) (oA K)), .sh, .sh, .no, .no], κc := [(.ow (fun x => x = v0) (oA K)), .sh, .sh, .no, .no] }) (i := 4) (rk := .sh) hN (by rfl) (by first | exact .inl (by rfl) | exact .inr (by rfl)) (qe_callF (X := X) cx (ok_law_sizes h) (by decide) (by rfl) (qp_sh (X := X) (qe_v (X := X) 1 (by rfl) (pv 1)) (qp_sh (X := X) (qe_v (X := X) 3 (by rfl) (pv 3)) qp_nil)) (noTwice_of (by decide))) (.keep (.drop (.drop (.drop (.keep .nil)))))) ?_
      refine qss_cons (κ1 := [(.ow (fun x => x = v0) (oA K)), .sh, .sh, .sh, .sh]) (qs_if (X := X) (J := { J with κb := [(.ow (fun x => x = v0) (oA K)), .sh, .sh, .no, .no], κc := [(.ow (fun x => x = v0) (oA K)), .sh, .sh, .no, .no] }) (f := (sRet (eK (.bool false)))) (g := sNil) (qt_w (X := X) (qw_or (X := X) (qt_cmp (X := X) (od_ne cx.u64) (qe_callB (X := X) (cd_repr cx.gd cx.u65) (by rfl) (h.free 22 rfl) b_repr (qa_cons (X := X) (qe_callF (X := X) cx (ok_sizes h) (by decide) (by rfl) (qp_sh (X := X) (qe_v (X := X) 1 (by rfl) (pv 1)) (qp_sh (X := X) (qe_v (X := X) 3 (by rfl) (pv 3)) qp_nil)) (noTwice_of (by decide))) qa_nil)) (qe_callB (X := X) (cd_repr cx.gd cx.u65) (by rfl) (h.free 22 rfl) b_repr (qa_cons (X := X) (qe_callTy (X := X) (cd_tup) (by rfl) (h.free 3 rfl) b_tuple (qa_cons (X := X) (qe_v (X := X) 4 (by rfl) (pv 4)) qa_nil)) qa_nil)) (nomark _)) (qw_or1 (X := X) (qt_cmp (X := X) (od_ne cx.u64) (qe_callB (X := X) (cd_sum cx.calm) (by rfl) (h.free 18 rfl) b_sum (qa_cons (X := X) (qe_v (X := X) 4 (by rfl) (pv 4)) qa_nil)) (qe_v (X := X) 3 (by rfl) (pv 3)) (nomark _))))) ?_ ?_ (.keep (.drop (.drop (.drop (.drop .nil)))))) ?_
      · refine qss_one (qs_ret (X := X) (J := { J with κb := [(.ow (fun x => x = v0) (oA K)), .sh, .sh, .no, .no], κc := [(.ow (fun x => x = v0) (oA K)), .sh, .sh, .no, .no] }) qe_bl (.keep (.drop (.drop (.drop (.drop .nil))))) (.keep (.drop (.drop (.drop (.drop .nil))))))
      · exact qss_nil
      exact qss_clr (is := [3, 4]) qss_nil (.keep (.keep (.keep (.drop (.drop .nil))))) (by simp)
    refine qss_one (qs_ret (X := X) (J := J) qe_bl (.keep (.drop (.drop (.keep (.keep .nil))))) (.keep (.drop (.drop (.keep (.keep .nil))))))
theorem ok_law_right {P : Program} {w : World} {K : PySem.W.Frag} {mg : Str → Option Value} {base : Heap} (h : Hd hfa hfn K mg) : GFn P w K mg base "_law_right" 5 [some (oA K), none] .sh D_law_right := by
  obtain ⟨fd, F⟩ := h.def_ 21 (d := d_law_right) rfl
  exact ⟨⟨_, fd, ["m", "kind"], h.glo 44 rfl, F.kp, F.bindsN fun _ _ _ _ _ _ us hl => match us, hl with | [_, _], _ => rfl, fg_law_right h F⟩⟩
theorem fg_law_most_right {P : Program} {w : World} {K : PySem.W.Frag} {mg : Str → Option Value} {base : Heap} (h : Hd hfa hfn K mg) {f : Addr} {fd : FuncData} {dvs : List V} {kws : List (Str × V)} (F : FunD K d_law_most_right.name d_law_most_right.qual d_law_most_right.params d_law_most_right.body d_law_most_right.scope dvs kws f fd) :
    FnG P w K mg base (L2.CX P w) 4 f fd ["m", "calls"] (spG K mg [some (oA K), none] .sh D_law_most_right) := by
  refine fnB_ok (N := ["m", "calls", "row", "ticks", "long"]) (ps := ["m", "calls"]) (ks := [some (oA K), none]) (m := 3) F sc_law_most_right rfl rfl (fun z => nomatch z) rfl fun cdv A outer s H vs E hv cx po => ?_
  let X : Cx := cxOf (L2.CX P w) P w K mg base ["m", "calls", "row", "ticks", "long"] d_law_most_right.qual d_law_most_right.scope f cdv A outer s H E
  have hN : (["m", "calls", "row", "ticks", "long"] : List Str).Nodup := sc_law_most_right.nd
  match vs, hv with
  | [v0, v1], _ =>
    refine ⟨[(.ow (fun x => x = v0) (oA K)), .no, .no, .no, .no], Wk.refl _, ?_⟩
    let J : Jx := ⟨[(.ow (fun x => x = v0) (oA K)), .no, .no, .no, .no], .sh, [(.ow (fun x => x = v0) (oA K)), .no, .no, .no, .no], fun cls d _ H => E cls d H, [], []⟩
    show QSs X J [(.ow (fun x => x = v0) (oA K)), .sh, .no, .no, .no] _ _ _
    refine qss_cons (κ1 := [(.ow (fun x => x = v0) (oA K)), .sh, .sh, .no, .no]) (qs_set (X := X) (J := J) (i := 2) (rk := .sh) hN (by rfl) (by first | exact .inl (by rfl) | exact .inr (by rfl)) (qe_callF (X := X) cx (ok_law_most_row h) (by decide) (by rfl) (qp_sh (X := X) (qe_v (X := X) 1 (by rfl) (pv 1)) (qp_sh (X := X) (qe_op (X := X) od_pow qe_int qe_int) qp_nil)) (noTwice_of (by decide))) (.keep (.drop (.keep (.keep (.keep .nil)))))) ?_
    refine qss_cons (κ1 := [(.ow (fun x => x = v0) (oA K)), .sh, .sh, .sh, .no]) (qs_set (X := X) (J := J) (i := 3) (rk := .sh) hN (by rfl) (by first | exact .inl (by rfl) | exact .inr (by rfl)) (qe_callF (X := X) cx (ok_law_next h) (by decide) (by rfl) (qp_io (X := X) 0 (by rfl) (pv 0) (qp_sh (X := X) (qe_callB (X := X) (cd_len) (by rfl) (h.free 9 rfl) b_len (qa_cons (X := X) (qe_v (X := X) 2 (by rfl) (pv 2)) qa_nil)) qp_nil)) (noTwice_of (by decide))) (.keep (.drop (.drop (.keep (.keep .nil)))))) ?_
    refine qss_cons (κ1 := [(.ow (fun x => x = v0) (oA K)), .sh, .sh, .sh, .no]) (qs_if (X := X) (J := J) (f := (sRet (eK (.bool false)))) (g := sNil) (qt_cmp (X := X) (od_ne cx.u64) (qe_callB (X := X) (cd_repr cx.gd cx.u65) (by rfl) (h.free 22 rfl) b_repr (qa_cons (X := X) (qe_callF (X := X) cx (ok_most_told h) (by decide) (by rfl) (qp_sh (X := X) (qe_v (X := X) 1 (by rfl) (pv 1)) (qp_sh (X := X) (qe_v (X := X) 3 (by rfl) (pv 3)) qp_nil)) (noTwice_of (by decide))) qa_nil)) (qe_callB (X := X) (cd_repr cx.gd cx.u65) (by rfl) (h.free 22 rfl) b_repr (qa_cons (X := X) (qe_ix (X := X) ixd (qe_v (X := X) 2 (by rfl) (pv 2)) (qe_v (X := X) 3 (by rfl) (pv 3)) (fun _ _ => (by rfl))) qa_nil)) (nomark _)) ?_ ?_ (.keep (.drop (.drop (.drop (.keep .nil)))))) ?_
    · refine qss_one (qs_ret (X := X) (J := J) qe_bl (.keep (.drop (.drop (.drop (.keep .nil))))) (.keep (.drop (.drop (.drop (.keep .nil))))))
    · exact qss_nil
    refine qss_cons (κ1 := [(.ow (fun x => x = v0) (oA K)), .sh, .sh, .sh, (.ow (fun x => True) (oLst K))]) (qs_set (X := X) (J := J) (i := 4) (rk := (.ow (oLst K))) hN (by rfl) (by first | exact .inl (by rfl) | exact .inr (by rfl)) (qe_lst (X := X) (qa_cons (X := X) qe_int qa_nil)) (.keep (.drop (.drop (.drop (.keep .nil)))))) ?_
    refine qss_cons (κ1 := [(.ow (fun x => x = v0) (oA K)), .sh, .sh, .sh, (.ow (fun x => True) (oLst K))]) (qs_while (X := X) (J := J) (f := (sDrop (eAppend 4 (eBin dAdd (eK (.int 1)) (eCB dSum (aCons (eIf (eTst asB (eBin dIsN (eV 1) (eK .none))) (eV 4) (eSl dSlL (eV 4) (oSome (eCB dMax (aCons (eK (.int 0)) (aCons (eBin dSub (eCB dLen (aCons (eV 4) aNil)) (eV 1)) aNil)))) oNone)) aNil)))))) 100000000 po (qt_cmp (X := X) (od_lt cx.u64) (qe_callB (X := X) (cd_len) (by rfl) (h.free 9 rfl) b_len (qa_cons (X := X) (qe_vp (X := X) 4 (by rfl) looks_lst (pv 4)) qa_nil)) qe_int (nomark _)) ?_ (.keep (.drop (.drop (.drop (.drop .nil)))))) ?_
    · refine qss_one (qs_expr (X := X) (J := { J with κb := [(.ow (fun x => x = v0) (oA K)), .sh, .sh, .sh, (.ow (fun x => True) (oLst K))], κc := [(.ow (fun x => x = v0) (oA K)), .sh, .sh, .sh, (.ow (fun x => True) (oLst K))] }) (qe_append (X := X) 4 (by rfl) (pv 4) (qe_op (X := X) od_add qe_int (qe_callB (X := X) (cd_sum cx.calm) (by rfl) (h.free 18 rfl) b_sum (qa_cons (X := X) (qe_if (X := X) (qt_cmp (X := X) od_isN (qe_v (X := X) 1 (by rfl) (pv 1)) qe_non (nomark _)) (qe_vp (X := X) 4 (by rfl) looks_lst (pv 4)) (qe_pk (X := X) looks_lst (qe_sl (X := X) sld_l (qe_vp (X := X) 4 (by rfl) looks_lst (pv 4)) (qo_some (X := X) (qe_callB (X := X) (cd_max cx.calm cx.u65) (by rfl) (h.free 17 rfl) b_max (qa_cons (X := X) qe_int (qa_cons (X := X) (qe_op (X := X) od_sub (qe_callB (X := X) (cd_len) (by rfl) (h.free 9 rfl) b_len (qa_cons (X := X) (qe_vp (X := X) 4 (by rfl) looks_lst (pv 4)) qa_nil)) (qe_v (X := X) 1 (by rfl) (pv 1))) qa_nil)))) qo_none))) qa_nil)))) (.keep (.drop (.drop (.drop (.drop .nil))))))
    refine qss_one (qs_ret (X := X) (J := J) (qe_and (X := X) (qe_cmp (X := X) (od_eq cx.u64) (qe_callF (X := X) cx (ok_most_told h) (by decide) (by rfl) (qp_sh (X := X) (qe_v (X := X) 1 (by rfl) (pv 1)) (qp_sh (X := X) qe_int qp_nil)) (noTwice_of (by decide))) (qe_ix (X := X) ixd (qe_vp (X := X) 4 (by rfl) looks_lst (pv 4)) qe_int (fun _ _ => (by rfl))) (nomark _)) (qe_one (X := X) (qe_cmp (X := X) (od_eq cx.u64) (qe_callF (X := X) cx (ok_most_told h) (by decide) (by rfl) (qp_sh (X := X) (qe_v (X := X) 1 (by rfl) (pv 1)) (qp_sh (X := X) qe_int qp_nil)) (noTwice_of (by decide))) (qe_ix (X := X) ixd (qe_vp (X := X) 4 (by rfl) looks_lst (pv 4)) qe_int (fun _ _ => (by rfl))) (nomark _)))) (.keep (.drop (.drop (.drop (.drop .nil))))) (.keep (.drop (.drop (.drop (.drop .nil))))))
theorem ok_law_most_right {P : Program} {w : World} {K : PySem.W.Frag} {mg : Str → Option Value} {base : Heap} (h : Hd hfa hfn K mg) : GFn P w K mg base "_law_most_right" 4 [some (oA K), none] .sh D_law_most_right := by
  obtain ⟨fd, F⟩ := h.def_ 22 (d := d_law_most_right) rfl
  exact ⟨⟨_, fd, ["m", "calls"], h.glo 45 rfl, F.kp, F.bindsN fun _ _ _ _ _ _ us hl => match us, hl with | [_, _], _ => rfl, fg_law_most_right h F⟩⟩
theorem fg_law {P : Program} {w : World} {K : PySem.W.Frag} {mg : Str → Option Value} {base : Heap} (h : Hd hfa hfn K mg) {f : Addr} {fd : FuncData} {dvs : List V} {kws : List (Str × V)} (F : FunD K d_law.name d_law.qual d_law.params d_law.body d_law.scope dvs kws f fd) :
    FnG P w K mg base (L2.CX P w) 6 f fd ["script"] (spG K mg [none] .sh D_law) := by
  refine fnB_ok (N := ["script", "m", "turn", "kind"]) (ps := ["script"]) (ks := [none]) (m := 3) F sc_law rfl rfl (fun z => nomatch z) rfl fun cdv A outer s H vs E hv cx po => ?_
  let X : Cx := cxOf (L2.CX P w) P w K mg base ["script", "m", "turn", "kind"] d_law.qual d_law.scope f cdv A outer s H E
  have hN : (["script", "m", "turn", "kind"] : List Str).Nodup := sc_law.nd
  match vs, hv with
  | [v0], _ =>
    refine ⟨[.no, .no, .no, .no], Wk.refl _, ?_⟩
    let J : Jx := ⟨[.no, .no, .no, .no], .sh, [.no, .no, .no, .no], fun cls d _ H => E cls d H, [], []⟩
    show QSs X J [.sh, .no, .no, .no] _ _ _
    refine qss_cons (κ1 := [.sh, (.ow (fun x => True) (oA K)), .no, .no]) (qs_set (X := X) (J := J) (i := 1) (rk := (.ow (oA K))) hN (by rfl) (by first | exact .inl (by rfl) | exact .inr (by rfl)) (qe_callF (X := X) cx (ok_law_begun h) (by decide) (by rfl) (qp_sh (X := X) (qe_v (X := X) 0 (by rfl) (pv 0)) qp_nil) (noTwice_of (by decide))) (.drop (.keep (.keep (.keep .nil))))) ?_
    refine qss_cons (κ1 := [.sh, (.ow (fun x => True) (oA K)), .no, .no]) (qs_for (X := X) (J := J) (is := [0, 1, 2, 3]) (κ1 := [.sh, (.ow (fun x => True) (oA K)), .sh, .no]) (f := (sSeq (sIf (bOr (bNot (eTst asB (eCall [some 1, none] (aIo (aCons (eCall [some 1] (aIo aNil) D_law_kind) aNil)) D_law_right))) (bNot (eTst asB (eCall [some 1, none] (aIo (aCons (eBin dAdd (eK (.int 2)) (eCall [some 1, none] (aIo (aCons (eK (.int 7)) aNil)) D_law_next)) aNil)) D_law_most_right)))) (sRet (eK (.bool false))) sNil) (sClr [2] sNil))) po cx.calm (qi_range1 (X := X) (by rfl) (h.free 16 rfl) (qa_cons (X := X) (qe_op (X := X) od_add qe_int (qe_callB (X := X) (cd_min cx.calm cx.u65) (by rfl) (h.free 20 rfl) b_min (qa_cons (X := X) (qe_callB (X := X) (cd_len) (by rfl) (h.free 9 rfl) b_len (qa_cons (X := X) (qe_v (X := X) 0 (by rfl) (pv 0)) qa_nil)) (qa_cons (X := X) qe_int qa_nil)))) qa_nil)) (qg_name (X := X) (κ := [.sh, (.ow (fun x => True) (oA K)), .no, .no]) (i := 2) hN (by rfl) (by first | exact .inl (by rfl) | exact .inr (by rfl))) ?_ (.drop (.drop (.keep (.keep .nil))))) ?_
    · refine qss_cons (κ1 := [.sh, (.ow (fun x => True) (oA K)), .sh, .no]) (qs_if (X := X) (J := { J with κb := [.sh, (.ow (fun x => True) (oA K)), .no, .no], κc := [.sh, (.ow (fun x => True) (oA K)), .no, .no] }) (f := (sRet (eK (.bool false)))) (g := sNil) (qt_w (X := X) (qw_or (X := X) (qt_not (X := X) (qt_val (X := X) (qe_callF (X := X) cx (ok_law_right h) (by decide) (by rfl) (qp_io (X := X) 1 (by rfl) (pv 1) (qp_sh (X := X) (qe_callF (X := X) cx (ok_law_kind h) (by decide) (by rfl) (qp_io (X := X) 1 (by rfl) (pv 1) qp_nil) (noTwice_of (by decide))) qp_nil)) (noTwice_of (by decide))))) (qw_or1 (X := X) (qt_not (X := X) (qt_val (X := X) (qe_callF (X := X) cx (ok_law_most_right h) (by decide) (by rfl) (qp_io (X := X) 1 (by rfl) (pv 1) (qp_sh (X := X) (qe_op (X := X) od_add qe_int (qe_callF (X := X) cx (ok_law_next h) (by decide) (by rfl) (qp_io (X := X) 1 (by rfl) (pv 1) (qp_sh (X := X) qe_int qp_nil)) (noTwice_of (by decide)))) qp_nil)) (noTwice_of (by decide)))))))) ?_ ?_ (.drop (.drop (.drop (.keep .nil))))) ?_
      · refine qss_one (qs_ret (X := X) (J := { J with κb := [.sh, (.ow (fun x => True) (oA K)), .no, .no], κc := [.sh, (.ow (fun x => True) (oA K)), .no, .no] }) qe_bl (.drop (.drop (.drop (.keep .nil)))) (.drop (.drop (.drop (.keep .nil)))))
      · exact qss_nil
      exact qss_clr (is := [2]) qss_nil (.keep (.keep (.drop (.keep .nil)))) (by simp)
    refine qss_cons (κ1 := [.sh, (.ow (fun x => True) (oA K)), .no, .no]) (qs_for (X := X) (J := J) (is := [0, 1, 2, 3]) (κ1 := [.sh, (.ow (fun x => True) (oA K)), .no, .sh]) (f := (sSeq (sIf (bNot (eTst asB (eCall [some 1, none] (aIo (aCons (eV 3) aNil)) D_law_right))) (sRet (eK (.bool false))) sNil) (sClr [3] sNil))) po cx.calm (qi_v (X := X) (qe_frz (X := X) (qe_lst (X := X) (qa_cons (X := X) (qe_tup (X := X) (qa_cons (X := X) qe_str qa_nil)) (qa_cons (X := X) (qe_tup (X := X) (qa_cons (X := X) qe_str (qa_cons (X := X) qe_int qa_nil))) (qa_cons (X := X) (qe_tup (X := X) (qa_cons (X := X) qe_str (qa_cons (X := X) qe_int qa_nil))) (qa_cons (X := X) (qe_tup (X := X) (qa_cons (X := X) qe_str (qa_cons (X := X) qe_int qa_nil))) (qa_cons (X := X) (qe_tup (X := X) (qa_cons (X := X) qe_str (qa_cons (X := X) qe_int qa_nil))) (qa_cons (X := X) (qe_tup (X := X) (qa_cons (X := X) qe_str (qa_cons (X := X) qe_int qa_nil))) (qa_cons (X := X) (qe_tup (X := X) (qa_cons (X := X) qe_str (qa_cons (X := X) qe_int qa_nil))) qa_nil)))))))))) (qg_name (X := X) (κ := [.sh, (.ow (fun x => True) (oA K)), .no, .no]) (i := 3) hN (by rfl) (by first | exact .inl (by rfl) | exact .inr (by rfl))) ?_ (.drop (.drop (.keep (.keep .nil))))) ?_
    · refine qss_cons (κ1 := [.sh, (.ow (fun x => True) (oA K)), .no, .sh]) (qs_if (X := X) (J := { J with κb := [.sh, (.ow (fun x => True) (oA K)), .no, .no], κc := [.sh, (.ow (fun x => True) (oA K)), .no, .no] }) (f := (sRet (eK (.bool false)))) (g := sNil) (qt_not (X := X) (qt_val (X := X) (qe_callF (X := X) cx (ok_law_right h) (by decide) (by rfl) (qp_io (X := X) 1 (by rfl) (pv 1) (qp_sh (X := X) (qe_v (X := X) 3 (by rfl) (pv 3)) qp_nil)) (noTwice_of (by decide))))) ?_ ?_ (.drop (.drop (.keep (.drop .nil))))) ?_
      · refine qss_one (qs_ret (X := X) (J := { J with κb := [.sh, (.ow (fun x => True) (oA K)), .no, .no], κc := [.sh, (.ow (fun x => True) (oA K)), .no, .no] }) qe_bl (.drop (.drop (.keep (.drop .nil)))) (.drop (.drop (.keep (.drop .nil)))))
      · exact qss_nil
      exact qss_clr (is := [3]) qss_nil (.keep (.keep (.keep (.drop .nil)))) (by simp)
    refine qss_cons (κ1 := [.sh, (.ow (fun x => True) (oA K)), .no, .no]) (qs_if (X := X) (J := J) (f := (sRet (eK (.bool false)))) (g := sNil) (qt_w (X := X) (qw_or (X := X) (qt_not (X := X) (qt_val (X := X) (qe_callF (X := X) cx (ok_law_most_right h) (by decide) (by rfl) (qp_io (X := X) 1 (by rfl) (pv 1) (qp_sh (X := X) qe_non qp_nil)) (noTwice_of (by decide))))) (qw_or (X := X) (qt_cmp (X := X) (od_ne cx.u64) (qe_callF (X := X) cx (ok_sizes h) (by decide) (by rfl) (qp_sh (X := X) (qe_tup (X := X) (qa_cons (X := X) qe_str qa_nil)) (qp_sh (X := X) qe_int qp_nil)) (noTwice_of (by decide))) (qe_tup (X := X) (qa_cons (X := X) qe_int (qa_cons (X := X) qe_int (qa_cons (X := X) qe_int qa_nil)))) (nomark _)) (qw_or1 (X := X) (qt_cmp (X := X) (od_ne cx.u64) (qe_callF (X := X) cx (ok_sizes h) (by decide) (by rfl) (qp_sh (X := X) (qe_tup (X := X) (qa_cons (X := X) qe_str (qa_cons (X := X) qe_int qa_nil))) (qp_sh (X := X) qe_int qp_nil)) (noTwice_of (by decide))) (qe_tup (X := X) (qa_cons (X := X) qe_int (qa_cons (X := X) qe_int qa_nil))) (nomark _)))))) ?_ ?_ (.drop (.drop (.keep (.keep .nil))))) ?_
    · refine qss_one (qs_ret (X := X) (J := J) qe_bl (.drop (.drop (.keep (.keep .nil)))) (.drop (.drop (.keep (.keep .nil)))))
    · exact qss_nil
    refine qss_one (qs_ret (X := X) (J := J) (qe_and (X := X) (qe_callF (X := X) cx (ok_is_lot h) (by decide) (by rfl) (qp_sh (X := X) qe_int (qp_sh (X := X) (qe_tup (X := X) qa_nil) qp_nil)) (noTwice_of (by decide))) (qe_and (X := X) (qe_callF (X := X) cx (ok_is_lot h) (by decide) (by rfl) (qp_sh (X := X) qe_int (qp_sh (X := X) (qe_tup (X := X) (qa_cons (X := X) qe_int (qa_cons (X := X) qe_int qa_nil))) qp_nil)) (noTwice_of (by decide))) (qe_and (X := X) (qe_not (X := X) (qe_callF (X := X) cx (ok_is_lot h) (by decide) (by rfl) (qp_sh (X := X) qe_int (qp_sh (X := X) (qe_tup (X := X) (qa_cons (X := X) qe_int qa_nil)) qp_nil)) (noTwice_of (by decide)))) (qe_one (X := X) (qe_not (X := X) (qe_callF (X := X) cx (ok_is_lot h) (by decide) (by rfl) (qp_sh (X := X) qe_int (qp_sh (X := X) (qe_tup (X := X) (qa_cons (X := X) qe_int qa_nil)) qp_nil)) (noTwice_of (by decide)))))))) (.drop (.drop (.keep (.keep .nil)))) (.drop (.drop (.keep (.keep .nil)))))
theorem ok_law {P : Program} {w : World} {K : PySem.W.Frag} {mg : Str → Option Value} {base : Heap} (h : Hd hfa hfn K mg) : GFn P w K mg base "law" 6 [none] .sh D_law := by
  obtain ⟨fd, F⟩ := h.def_ 23 (d := d_law) rfl
  exact ⟨⟨_, fd, ["script"], h.glo 46 rfl, F.kp, F.bindsN fun _ _ _ _ _ _ us hl => match us, hl with | [_], _ => rfl, fg_law h F⟩⟩
end GL

set_option maxHeartbeats 0
namespace GL
open PySem PySem.Spec PyProof.Rows L2
abbrev hR : PySem.W.OpenRow := PySem.W.OpenLaw.row PySem.Challenge.rw_callsdown_k01_whole_shapes
abbrev hk : PySem.W.Hook := He.hookD 6 hfa hfn
def hob (s : PySem.W.SharedT) : He.AlD := He.obsDG 6 hfa hfn (HandSHeadRun.getT s)
theorem hob_eq (s : PySem.W.SharedT) : hob s = hk.obs s.abs := He.obsDG_eq (HandSHeadRun.getT_eq s)
def loose : List Str := "BadKind" :: "OutOfPlace" :: "PARTS" :: "HALF" :: "BEST" :: "HEAP" :: "LEAST_NUMBER" :: "MOST_NUMBER" :: "MOST_PEOPLE" :: "MOST_LOT" :: "MOST_TICKS" :: "is_whole" :: "need_kind" :: "need_people" :: "is_lot_of" :: "is_lot" :: "need_calls" :: "row_told" :: "most_told" :: "ticks_for" :: "even_sizes" :: "half_sizes" :: "best_sizes" :: "heap_sizes" :: "sizes_of" :: "sizes" :: "_law_begun" :: "_law_next" :: "_law_kind" :: "_law_most_row" :: "_law_below" :: "_law_sizes" :: "_law_right" :: "_law_most_right" :: []
theorem hrun (w : World) : HandSHeadRun.RunEq hR (PySem.W.view hR.prog [37]) hk hob 3000 loose w := by
  intro os
  kernel_rfl
end GL

set_option maxHeartbeats 4000000
/-! what the calls on shapes compute. -/
namespace GL
open PySem PySem.Spec PyProof.Rows G SP
open L2 hiding St Inv Binds
def cD : Option Nat → PyData
  | none => .none
  | some c => .int (c : Int)
inductive Kd where
  | parts (n : Nat) | half | best (n : Nat) | heap (n : Nat)
def Kd.D : Kd → PyData
  | .parts n => .tuple [.str "parts", .int (n : Int)]
  | .half => .tuple [.str "half"]
  | .best n => .tuple [.str "best", .int (n : Int)]
  | .heap n => .tuple [.str "heap", .int (n : Int)]
def Kd.Ok : Kd → Prop
  | .parts n => 2 ≤ n ∧ n ≤ 8
  | .half => True
  | .best n => 2 ≤ n ∧ n ≤ 8
  | .heap n => 2 ≤ n ∧ n ≤ 8
def CC (c : Option Nat) : Prop := ∀ k, c = some k → 2 ≤ k ∧ k ≤ 8
theorem CC.ok {c : Option Nat} (h : CC c) : SZ.Cok c := fun k e => (h k e).1
theorem is_whole_ok (n a b : Int) : D_is_whole [.int n, .int a, .int b] = .ok (.bool (decide (a ≤ n) && decide (n ≤ b))) [.int n, .int a, .int b] := by
  unfold D_is_whole
  have e1 : bOr (bNot (eTst asB (eUn (fun d => some (.bool (isT "int" d))) (eV 0)))) (bOr (eTst asB (eUn (fun d => some (.bool (isT "bool" d))) (eV 0))) (eTst asB (eBin dLt (eV 0) (eV 1)))) ([.int n, .int a, .int b] ++ List.replicate 0 .none) = .ok (decide (n < a)) [.int n, .int a, .int b] := by kernel_rfl
  have e2 : eOr (eBin dIsN (eV 2) (eK .none)) (eBin dLe (eV 0) (eV 2)) [.int n, .int a, .int b] = .ok (.bool (decide (n ≤ b))) [.int n, .int a, .int b] := rfl
  by_cases h : n < a
  · rw [decide_eq_true h] at e1
    rw [decide_eq_false (by omega : ¬ a ≤ n)]
    exact fnB_rt' (ρ' := [.int n, .int a, .int b]) (sSeq_rt ((sIf_t e1).trans rfl)) rfl
  · rw [decide_eq_false h] at e1
    rw [decide_eq_true (by omega : a ≤ n)]
    exact fnB_rt' (ρ' := [.int n, .int a, .int b]) ((sSeq_nx (sIf_nil e1)).trans (sRet_ok e2)) rfl
theorem need_kind_ok {k : Kd} (h : k.Ok) : D_need_kind [k.D] = .ok k.D [k.D] := by
  cases k with
  | half => kernel_rfl
  | parts n =>
    obtain ⟨h1, h2⟩ := h
    have : n = 2 ∨ n = 3 ∨ n = 4 ∨ n = 5 ∨ n = 6 ∨ n = 7 ∨ n = 8 := by omega
    rcases this with rfl | rfl | rfl | rfl | rfl | rfl | rfl <;> kernel_rfl
  | best n =>
    obtain ⟨h1, h2⟩ := h
    have : n = 2 ∨ n = 3 ∨ n = 4 ∨ n = 5 ∨ n = 6 ∨ n = 7 ∨ n = 8 := by omega
    rcases this with rfl | rfl | rfl | rfl | rfl | rfl | rfl <;> kernel_rfl
  | heap n =>
    obtain ⟨h1, h2⟩ := h
    have : n = 2 ∨ n = 3 ∨ n = 4 ∨ n = 5 ∨ n = 6 ∨ n = 7 ∨ n = 8 := by omega
    rcases this with rfl | rfl | rfl | rfl | rfl | rfl | rfl <;> kernel_rfl
theorem need_calls_ok {c : Option Nat} (h : CC c) : D_need_calls [cD c] = .ok .none [cD c] := by
  cases c with
  | none => kernel_rfl
  | some k =>
    obtain ⟨h1, h2⟩ := h k rfl
    have : k = 2 ∨ k = 3 ∨ k = 4 ∨ k = 5 ∨ k = 6 ∨ k = 7 ∨ k = 8 := by omega
    rcases this with rfl | rfl | rfl | rfl | rfl | rfl | rfl <;> kernel_rfl
/-! ### the row -/
def rwE (ic ir : Nat) (fl : M PyData) : M PyData := eBin dAdd (eK (.int 1)) (eCB dSum (aCons (eIf (eTst asB (eBin dIsN (eV ic) (eK .none))) (eV ir) (eSl dSlL (eV ir) (oSome (eCB dMax (aCons (eK (.int 0)) (aCons (eBin dSub fl (eV ic)) aNil)))) oNone)) aNil))
theorem rwE_ok {ρ : Ev} {c : Option Nat} {n ic ir : Nat} {fl : M PyData} (hc : eV ic ρ = .ok (cD c) ρ) (hr : eV ir ρ = .ok (.list (lN (SZ.row c n))) ρ) (hl : fl ρ = .ok (.int ((n + 1 : Nat) : Int)) ρ) : rwE ic ir fl ρ = .ok (.int ((SZ.a c (n + 1) : Nat) : Int)) ρ := by
  have q : eIf (eTst asB (eBin dIsN (eV ic) (eK .none))) (eV ir) (eSl dSlL (eV ir) (oSome (eCB dMax (aCons (eK (.int 0)) (aCons (eBin dSub fl (eV ic)) aNil)))) oNone) ρ = .ok (.list (lN (SZ.lastC c (SZ.row c n)))) ρ := by
    cases c with
    | none => exact (eIf_t (tB (g := dIsN) (a := .none) (b := .none) (r := true) hc rfl rfl)).trans hr
    | some k =>
      refine (eIf_f (tB (g := dIsN) (a := .int (k : Int)) (b := .none) (r := false) hc rfl rfl)).trans ?_
      have e1 : oSome (eCB dMax (aCons (eK (.int 0)) (aCons (eBin dSub fl (eV ic)) aNil))) ρ = .ok (some (((n + 1 - k : Nat)) : Int)) ρ := by
        have e2 : eCB dMax (aCons (eK (.int 0)) (aCons (eBin dSub fl (eV ic)) aNil)) ρ = .ok (.int (((n + 1 - k : Nat)) : Int)) ρ := by
          refine eCB_ok (ds := [.int 0, .int (((n + 1 : Nat) : Int) - (k : Int))]) (aCons_ok rfl (a1_ok (eBin_ok hl hc rfl))) ?_
          show some (PyData.int (if ((n + 1 : Nat) : Int) - (k : Int) > 0 then ((n + 1 : Nat) : Int) - (k : Int) else 0)) = _
          refine congrArg (fun i : Int => some (PyData.int i)) ?_
          split <;> omega
        unfold oSome; rw [e2]; rfl
      refine eSl_ok hr e1 rfl ?_
      rw [dSlL_from]
      show _ = some (PyData.list (lN ((SZ.row (some k) n).drop ((SZ.row (some k) n).length - k))))
      rw [SZ.row_len]
      unfold lN
      rw [List.map_drop]
  refine eBin_ok rfl (eCB_ok (a1_ok q) (dSum_nat _)) ?_
  rw [SZ.a_succ]
  exact dAdd_nat 1 _
theorem row_put (c : Option Nat) (n : Nat) : lN (SZ.row c n) ++ [.int ((SZ.a c (n + 1) : Nat) : Int)] = lN (SZ.row c (n + 1)) := by
  rw [SZ.row_succ, lN_append]; rfl
def rtB : MS := sSeq (sDrop (eAppend 2 (rwE 0 2 (eV 3)))) (sClr [3] sNil)
theorem rt_eq : D_row_told = fnB [false, false] 2 false (sSeq (sSet 2 (eLst (aCons (eK (.int 1)) aNil))) (sSeq (sFor (aft1 rng2 (aCons (eK (.int 1)) (aCons (eBin dAdd (eV 1) (eK (.int 1))) aNil))) (gN 3) rtB) (sRet (eV 2)))) := rfl
theorem rt_loop (c : Option Nat) (T : PyData) : ∀ k n : Nat, n + k ≤ 1000 → forGo (gN 3) rtB (rngs ((n + 1 : Nat) : Int) k) [cD c, T, .list (lN (SZ.row c n)), .none] = .nx [cD c, T, .list (lN (SZ.row c (n + k))), .none]
  | 0, n, _ => rfl
  | k + 1, n, h => by
    have e1 := rwE_ok (ρ := [cD c, T, .list (lN (SZ.row c n)), .int ((n + 1 : Nat) : Int)]) (c := c) (n := n) (ic := 0) (ir := 2) (fl := eV 3) rfl rfl rfl
    have e2 : rtB [cD c, T, .list (lN (SZ.row c n)), .int ((n + 1 : Nat) : Int)] = .nx [cD c, T, .list (lN (SZ.row c (n + 1))), .none] := by
      refine (sSeq_nx (sDrop_ok (appd_ok (ds := lN (SZ.row c n)) e1 rfl (sz_small (by rw [lN_len, SZ.row_len]; omega))))).trans ?_
      rw [row_put]
      rfl
    rw [rngs_succ, show (((n + 1 : Nat) : Int) + 1) = ((n + 1 + 1 : Nat) : Int) from rfl]
    refine (forGo_go (ρ1 := [cD c, T, .list (lN (SZ.row c n)), .int ((n + 1 : Nat) : Int)]) rfl e2).trans ?_
    rw [rt_loop c T k (n + 1) (by omega), show n + 1 + k = n + (k + 1) by omega]
theorem row_told_ok (c : Option Nat) {t : Nat} (h : t ≤ 1000) : D_row_told [cD c, .int (t : Int)] = .ok (.list (lN (SZ.row c t))) [cD c, .int (t : Int)] := by
  rw [rt_eq]
  have e0 : sSet 2 (eLst (aCons (eK (.int 1)) aNil)) [cD c, .int (t : Int), .none, .none] = .nx [cD c, .int (t : Int), .list (lN (SZ.row c 0)), .none] := rfl
  have r := rng2_ok (i := 1) (j := ((t + 1 : Nat) : Int)) (by omega) (by omega) (by omega) (by omega)
  rw [show (((t + 1 : Nat) : Int) - 1).toNat = t by omega] at r
  have e1 : sFor (aft1 rng2 (aCons (eK (.int 1)) (aCons (eBin dAdd (eV 1) (eK (.int 1))) aNil))) (gN 3) rtB [cD c, .int (t : Int), .list (lN (SZ.row c 0)), .none] = .nx [cD c, .int (t : Int), .list (lN (SZ.row c t)), .none] := by
    have a1 : aCons (eK (.int 1)) (aCons (eBin dAdd (eV 1) (eK (.int 1))) aNil) [cD c, .int (t : Int), .list (lN (SZ.row c 0)), .none] = .ok [.int 1, .int ((t + 1 : Nat) : Int)] [cD c, .int (t : Int), .list (lN (SZ.row c 0)), .none] := aCons_ok rfl (a1_ok (eBin_ok (a := .int (t : Int)) (b := .int 1) rfl rfl (dAdd_nat t 1)))
    have := rt_loop c (.int (t : Int)) t 0 (by omega)
    rw [Nat.zero_add t] at this
    exact (sFor_ok (aft1_ok a1 r)).trans this
  exact fnB_rt' (ρ' := [cD c, .int (t : Int), .list (lN (SZ.row c t)), .none]) ((sSeq_nx e0).trans ((sSeq_nx e1).trans rfl)) rfl
theorem most_told_ok {c : Option Nat} (hc : CC c) {t : Nat} (h : t ≤ 200) : D_most_told [cD c, .int (t : Int)] = .ok (.int ((SZ.a c t : Nat) : Int)) [cD c, .int (t : Int)] := by
  unfold D_most_told
  have e0 : sDrop (eCall [none] (aCons (eV 0) aNil) D_need_calls) [cD c, .int (t : Int)] = .nx [cD c, .int (t : Int)] := sDrop_ok (eCall_k (ρ1 := [cD c, .int (t : Int)]) [cD c] rfl (need_calls_ok hc) rfl)
  have w := is_whole_ok (t : Int) 0 200
  rw [decide_eq_true (by omega), decide_eq_true (by omega)] at w
  have c1 : eCall [none, none, none] (aCons (eV 1) (aCons (eK (.int 0)) (aCons (eK (.int 200)) aNil))) D_is_whole [cD c, .int (t : Int)] = .ok (.bool true) [cD c, .int (t : Int)] := eCall_k (ρ1 := [cD c, .int (t : Int)]) [.int (t : Int), .int 0, .int 200] rfl w rfl
  have e1 : sIf (bNot (eTst asB (eCall [none, none, none] (aCons (eV 1) (aCons (eK (.int 0)) (aCons (eK (.int 200)) aNil))) D_is_whole))) sBad sNil [cD c, .int (t : Int)] = .nx [cD c, .int (t : Int)] := sIf_nil (bNot_ok (b := true) (eTst_ok c1 rfl))
  have c2 : eCall [none, none] (aCons (eV 0) (aCons (eV 1) aNil)) D_row_told [cD c, .int (t : Int)] = .ok (.list (lN (SZ.row c t))) [cD c, .int (t : Int)] := eCall_k (ρ1 := [cD c, .int (t : Int)]) [cD c, .int (t : Int)] rfl (row_told_ok c (by omega)) rfl
  have e2 : sRet (eBin dIx (eCall [none, none] (aCons (eV 0) (aCons (eV 1) aNil)) D_row_told) (eV 1)) [cD c, .int (t : Int)] = .rt (.int ((SZ.a c t : Nat) : Int)) [cD c, .int (t : Int)] := by
    refine sRet_ok (eBin_ok c2 (b := .int (t : Int)) rfl ?_)
    rw [dIx_lN (by rw [SZ.row_len]; omega)]
    rfl
  exact fnB_rt' (ρ' := [cD c, .int (t : Int)]) ((sSeq_nx e0).trans ((sSeq_nx e1).trans e2)) rfl
def tfC : M Bool := eTst asB (eBin dLt (eBin dIx (eV 2) (eNeg (eK (.int 1)))) (eV 1))
def tfB : MS := sDrop (eAppend 2 (rwE 0 2 (eCB dLen (aCons (eV 2) aNil))))
theorem tf_eq : D_ticks_for = fnB [false, false] 1 false (sSeq (sSet 2 (eLst (aCons (eK (.int 1)) aNil))) (sSeq (sWhile tfC tfB 100000000) (sRet (eV 2)))) := rfl
theorem len_row {ρ : Ev} {i : Nat} {c : Option Nat} {n : Nat} (h : eV i ρ = .ok (.list (lN (SZ.row c n))) ρ) : eCB dLen (aCons (eV i) aNil) ρ = .ok (.int ((n + 1 : Nat) : Int)) ρ := by
  refine eCB_ok (a1_ok h) ?_
  show some (PyData.int (((lN (SZ.row c n)).length : Nat) : Int)) = _
  rw [lN_len, SZ.row_len]
theorem row_end (c : Option Nat) (n : Nat) : dIx (.list (lN (SZ.row c n))) (.int (-1)) = some (.int ((SZ.a c n : Nat) : Int)) := by
  cases n with
  | zero => rfl
  | succ n => rw [SZ.row_succ]; exact dIxL_last _ _
theorem tf_loop (c : Option Nat) (t : Nat) : ∀ (d n fuel : Nat), n + d ≤ 1000 → d < fuel → SZ.Fst c t (n + d) → sWhile tfC tfB fuel [cD c, .int (t : Int), .list (lN (SZ.row c n))] = .nx [cD c, .int (t : Int), .list (lN (SZ.row c (n + d)))]
  | d, n, 0, _, h, _ => absurd h (Nat.not_lt_zero _)
  | 0, n, fuel + 1, _, _, h => by
    have q : tfC [cD c, .int (t : Int), .list (lN (SZ.row c n))] = .ok (decide (SZ.a c n < t)) [cD c, .int (t : Int), .list (lN (SZ.row c n))] := tB (eBin_ok (b := .int (-1)) rfl rfl (row_end c n)) rfl (dLt_nat _ _)
    have h1 := h.1
    rw [Nat.add_zero] at h1
    rw [decide_eq_false (by omega)] at q
    exact sWhile_f q
  | d + 1, n, fuel + 1, hl, hf, h => by
    have q : tfC [cD c, .int (t : Int), .list (lN (SZ.row c n))] = .ok (decide (SZ.a c n < t)) [cD c, .int (t : Int), .list (lN (SZ.row c n))] := tB (eBin_ok (b := .int (-1)) rfl rfl (row_end c n)) rfl (dLt_nat _ _)
    rw [decide_eq_true (h.2 n (by omega))] at q
    have e1 := rwE_ok (ρ := [cD c, .int (t : Int), .list (lN (SZ.row c n))]) (c := c) (n := n) (ic := 0) (ir := 2) (fl := eCB dLen (aCons (eV 2) aNil)) rfl rfl (len_row rfl)
    have e2 : tfB [cD c, .int (t : Int), .list (lN (SZ.row c n))] = .nx [cD c, .int (t : Int), .list (lN (SZ.row c (n + 1)))] := by
      refine (sDrop_ok (appd_ok (ds := lN (SZ.row c n)) e1 rfl (sz_small (by rw [lN_len, SZ.row_len]; omega)))).trans ?_
      rw [row_put]
      rfl
    rw [sWhile_t q e2, show n + (d + 1) = n + 1 + d by omega]
    exact tf_loop c t d (n + 1) fuel (by omega) (by omega) (by rw [show n + 1 + d = n + (d + 1) by omega]; exact h)
theorem ticks_for_ok {c : Option Nat} {t n : Nat} (hn : n ≤ 1000) (h : SZ.Fst c t n) : D_ticks_for [cD c, .int (t : Int)] = .ok (.list (lN (SZ.row c n))) [cD c, .int (t : Int)] := by
  rw [tf_eq]
  have e0 : sSet 2 (eLst (aCons (eK (.int 1)) aNil)) [cD c, .int (t : Int), .none] = .nx [cD c, .int (t : Int), .list (lN (SZ.row c 0))] := rfl
  have e1 := tf_loop c t n 0 100000000 (by omega) (by omega) (by rw [Nat.zero_add]; exact h)
  rw [Nat.zero_add] at e1
  exact fnB_rt' (ρ' := [cD c, .int (t : Int), .list (lN (SZ.row c n))]) ((sSeq_nx e0).trans ((sSeq_nx e1).trans rfl)) rfl
/-! ### sizes -/
theorem even_sizes_ok {n cnt : Nat} (h : 1 ≤ min n cnt) (hn : n ≤ 8) : D_even_sizes [.int (n : Int), .int (cnt : Int)] = .ok (.list (lN (SZ.ev (min n cnt) (cnt / min n cnt) (cnt % min n cnt)))) [.int (n : Int), .int (cnt : Int)] := by
  unfold D_even_sizes
  have b8 : min n cnt ≤ 8 := by omega
  have big : 8 < 2 ^ 4000 := Nat.lt_of_lt_of_le (by decide : 8 < 2 ^ 4) (Nat.pow_le_pow_right (by decide) (by decide))
  generalize hp : min n cnt = p at h b8
  have e0 : sSet 2 (eCB dMin (aCons (eV 0) (aCons (eV 1) aNil))) [.int (n : Int), .int (cnt : Int), .none, .none] = .nx [.int (n : Int), .int (cnt : Int), .int (p : Int), .none] := by
    have : eCB dMin (aCons (eV 0) (aCons (eV 1) aNil)) [.int (n : Int), .int (cnt : Int), .none, .none] = .ok (.int (p : Int)) [.int (n : Int), .int (cnt : Int), .none, .none] := eCB_ok (ds := [.int (n : Int), .int (cnt : Int)]) rfl (by rw [dMin_nat, hp])
    exact sSet_ok this
  have e1 : sRet (eLc [3] (aft1 rng1 (aCons (eV 2) aNil)) (gN 3) tYesD (eBin dAdd (eBin dDiv (eV 1) (eV 2)) (eCB dInt (aCons (eBin dLt (eV 3) (eBin dMod (eCB dInt (aCons (eV 1) aNil)) (eV 2))) aNil)))) [.int (n : Int), .int (cnt : Int), .int (p : Int), .none] = .rt (.list (lN (SZ.ev p (cnt / p) (cnt % p)))) [.int (n : Int), .int (cnt : Int), .int (p : Int), .none] := by
    refine sRet_ok ?_
    have q := eLc_go (vs := [3]) (fi := aft1 rng1 (aCons (eV 2) aNil)) (g := gN 3) (ft := tYesD) (fe := eBin dAdd (eBin dDiv (eV 1) (eV 2)) (eCB dInt (aCons (eBin dLt (eV 3) (eBin dMod (eCB dInt (aCons (eV 1) aNil)) (eV 2))) aNil))) (ρ := [.int (n : Int), .int (cnt : Int), .int (p : Int), .none])
      (fun (k : Nat) => .int (k : Int)) (fun y => [.int (n : Int), .int (cnt : Int), .int (p : Int), y]) .none (fun _ => true) (fun (k : Nat) => .int ((cnt / p + (if k < cnt % p then 1 else 0) : Nat) : Int)) (List.range' 0 p) ?_ (fun _ _ => rfl) (fun k hk => ⟨rfl, fun _ => ?_⟩) (fun _ => rfl) (by rw [List.length_range']; exact Nat.le_of_lt (sz_small (by omega)))
    · rw [List.filter_eq_self.mpr (fun _ _ => rfl)] at q
      rw [q]
      unfold SZ.ev lN
      rw [List.map_map, List.range_eq_range']
      rfl
    · have r := rng1_ok (j := (p : Int)) (by omega) (by omega)
      rw [Int.toNat_natCast, show (0 : Int) = ((0 : Nat) : Int) from rfl, rngs_lN] at r
      exact aft1_ok (ds := [.int (p : Int)]) rfl r
    · refine eBin_ok (eBin_ok rfl rfl (dDiv_nat h (by omega))) (eCB_ok (ds := [.bool (decide (k < cnt % p))]) (a1_ok (eBin_ok rfl (eBin_ok (eInt_ok rfl) rfl (dMod_nat h)) (dLt_nat _ _))) (r := .int (if decide (k < cnt % p) = true then 1 else 0)) rfl) ?_
      by_cases z : k < cnt % p
      · rw [decide_eq_true z, if_pos rfl, if_pos z]; rfl
      · rw [decide_eq_false z, if_neg (by decide), if_neg z]; rfl
  exact fnB_rt' (ρ' := [.int (n : Int), .int (cnt : Int), .int (p : Int), .none]) ((sSeq_nx e0).trans e1) rfl
def hfC : M Bool := eTst asB (eBin dGt (eV 0) (eK (.int 0)))
def hfB : MS := sSeq (sDrop (eAppend 1 (eBin dDiv (eBin dAdd (eV 0) (eK (.int 1))) (eK (.int 2))))) (sSet 0 (eBin dDiv (eV 0) (eK (.int 2))))
theorem hf_eq : D_half_sizes = fnB [false] 1 false (sSeq (sSet 1 (eLst aNil)) (sSeq (sWhile hfC hfB 100000000) (sRet (eV 1)))) := rfl
theorem two_big : 2 < 2 ^ 4000 := Nat.lt_of_lt_of_le (by decide : 2 < 2 ^ 4) (Nat.pow_le_pow_right (by decide) (by decide))
theorem hf_loop : ∀ (f n fuel : Nat) (acc : List Nat), n < 2 ^ f → f < fuel → acc.length + f ≤ 1000 → ∃ z, sWhile hfC hfB fuel [.int (n : Int), .list (lN acc)] = .nx [z, .list (lN (acc ++ SZ.hv f n))]
  | f, n, 0, _, _, h, _ => absurd h (Nat.not_lt_zero _)
  | 0, n, fuel + 1, acc, h, _, _ => by
    have : n = 0 := by simpa using h
    subst this
    refine ⟨.int 0, ?_⟩
    rw [show SZ.hv 0 0 = [] from rfl, List.append_nil]
    exact sWhile_f rfl
  | f + 1, n, fuel + 1, acc, h, hf, hl => by
    have q : hfC [.int (n : Int), .list (lN acc)] = .ok (decide (0 < n)) [.int (n : Int), .list (lN acc)] := tB (b := .int ((0 : Nat) : Int)) rfl rfl (dGt_nat _ _)
    by_cases z : n = 0
    · subst z
      refine ⟨.int 0, ?_⟩
      rw [show SZ.hv (f + 1) 0 = [] from rfl, List.append_nil]
      exact sWhile_f q
    · rw [decide_eq_true (by omega)] at q
      have e2 : hfB [.int (n : Int), .list (lN acc)] = .nx [.int ((n / 2 : Nat) : Int), .list (lN (acc ++ [(n + 1) / 2]))] := by
        have c1 : eBin dDiv (eBin dAdd (eV 0) (eK (.int 1))) (eK (.int 2)) [.int (n : Int), .list (lN acc)] = .ok (.int (((n + 1) / 2 : Nat) : Int)) [.int (n : Int), .list (lN acc)] := eBin_ok (a := .int ((n + 1 : Nat) : Int)) (b := .int ((2 : Nat) : Int)) rfl rfl (dDiv_nat (by decide) two_big)
        have c2 : eBin dDiv (eV 0) (eK (.int 2)) [.int (n : Int), .list (lN (acc ++ [(n + 1) / 2]))] = .ok (.int ((n / 2 : Nat) : Int)) [.int (n : Int), .list (lN (acc ++ [(n + 1) / 2]))] := eBin_ok (b := .int ((2 : Nat) : Int)) rfl rfl (dDiv_nat (by decide) two_big)
        refine (sSeq_nx (sDrop_ok (appd_ok (ds := lN acc) c1 rfl (sz_small (by rw [lN_len]; omega))))).trans ?_
        rw [show [PyData.int (((n + 1) / 2 : Nat) : Int)] = lN [(n + 1) / 2] from rfl, ← lN_append]
        exact sSet_ok c2
      rw [sWhile_t q e2]
      obtain ⟨y, hy⟩ := hf_loop f (n / 2) fuel (acc ++ [(n + 1) / 2]) (by rw [Nat.pow_succ] at h; omega) (by omega) (by rw [List.length_append, List.length_singleton]; omega)
      refine ⟨y, ?_⟩
      rw [hy, List.append_assoc]
      have : SZ.hv (f + 1) n = (n + 1) / 2 :: SZ.hv f (n / 2) := by
        conv => lhs; unfold SZ.hv
        rw [if_neg z]
      rw [this]
      rfl
theorem half_sizes_ok {cnt : Nat} (h : cnt < 2 ^ 100) : D_half_sizes [.int (cnt : Int)] = .ok (.list (lN (SZ.hv 100 cnt))) [.int (cnt : Int)] := by
  rw [hf_eq]
  obtain ⟨z, hz⟩ := hf_loop 100 cnt 100000000 [] h (by omega) (by decide)
  have e0 : sSet 1 (eLst aNil) [.int (cnt : Int), .none] = .nx [.int (cnt : Int), .list (lN [])] := rfl
  exact fnB_rt' (ρ' := [z, .list (lN (SZ.hv 100 cnt))]) ((sSeq_nx e0).trans ((sSeq_nx hz).trans rfl)) rfl
def bsB : MS := sSeq (sIf (eTst asB (eBin dGt (eV 1) (eK (.int 0)))) (sSeq (sDrop (eAppend 3 (eCB dMin (aCons (eV 4) (aCons (eV 1) aNil))))) (sAug 1 dSubI (eBin dIx (eV 3) (eNeg (eK (.int 1)))))) sNil) (sClr [4] sNil)
theorem be_eq : D_best_sizes = fnB [false, false] 3 false (sSeq (sParO 2 3 (eCall [none, none] (aCons (eV 0) (aCons (eBin dAdd (eV 1) (eK (.int 1))) aNil)) D_ticks_for) (eLst aNil)) (sSeq (sFor (iV (eUn dRevL (eSl dSlL (eV 2) oNone (oSome (eNeg (eK (.int 1))))))) (gN 4) bsB) (sRet (eV 3)))) := rfl
theorem bs_loop (A R : PyData) : ∀ (ts : List Nat) (n : Nat) (acc : List Nat), acc.length + ts.length ≤ 1000 → ∃ z, forGo (gN 4) bsB (lN ts) [A, .int (n : Int), R, .list (lN acc), .none] = .nx [A, z, R, .list (lN (acc ++ SZ.bs ts n)), .none]
  | [], n, acc, _ => ⟨.int (n : Int), by rw [show SZ.bs [] n = [] from rfl, List.append_nil]; rfl⟩
  | t :: ts, n, acc, h => by
    rw [List.length_cons] at h
    have q : eTst asB (eBin dGt (eV 1) (eK (.int 0))) [A, .int (n : Int), R, .list (lN acc), .int (t : Int)] = .ok (decide (0 < n)) [A, .int (n : Int), R, .list (lN acc), .int (t : Int)] := tB (b := .int ((0 : Nat) : Int)) rfl rfl (dGt_nat _ _)
    by_cases z : n = 0
    · subst z
      have e2 : bsB [A, .int ((0 : Nat) : Int), R, .list (lN acc), .int (t : Int)] = .nx [A, .int ((0 : Nat) : Int), R, .list (lN acc), .none] := (sSeq_nx (sIf_nil q)).trans rfl
      obtain ⟨y, hy⟩ := bs_loop A R ts 0 acc (by omega)
      refine ⟨y, ?_⟩
      rw [SZ.bs_zero] at hy ⊢
      exact (forGo_go (ρ1 := [A, .int ((0 : Nat) : Int), R, .list (lN acc), .int (t : Int)]) rfl e2).trans hy
    · rw [decide_eq_true (by omega)] at q
      have c1 : eCB dMin (aCons (eV 4) (aCons (eV 1) aNil)) [A, .int (n : Int), R, .list (lN acc), .int (t : Int)] = .ok (.int ((min t n : Nat) : Int)) [A, .int (n : Int), R, .list (lN acc), .int (t : Int)] := eCB_ok (ds := [.int (t : Int), .int (n : Int)]) rfl (dMin_nat _ _)
      have e1 : sDrop (eAppend 3 (eCB dMin (aCons (eV 4) (aCons (eV 1) aNil)))) [A, .int (n : Int), R, .list (lN acc), .int (t : Int)] = .nx [A, .int (n : Int), R, .list (lN (acc ++ [min t n])), .int (t : Int)] := by
        refine (sDrop_ok (appd_ok (ds := lN acc) c1 rfl (sz_small (by rw [lN_len]; omega)))).trans ?_
        rw [show [PyData.int ((min t n : Nat) : Int)] = lN [min t n] from rfl, ← lN_append]
        rfl
      have c2 : eBin dIx (eV 3) (eNeg (eK (.int 1))) [A, .int (n : Int), R, .list (lN (acc ++ [min t n])), .int (t : Int)] = .ok (.int ((min t n : Nat) : Int)) [A, .int (n : Int), R, .list (lN (acc ++ [min t n])), .int (t : Int)] := eBin_ok (b := .int (-1)) rfl rfl (dIxL_last _ _)
      have e3 : sAug 1 dSubI (eBin dIx (eV 3) (eNeg (eK (.int 1)))) [A, .int (n : Int), R, .list (lN (acc ++ [min t n])), .int (t : Int)] = .nx [A, .int ((n - min t n : Nat) : Int), R, .list (lN (acc ++ [min t n])), .int (t : Int)] := by
        refine augs_ok (e := .int (n : Int)) (r := .int ((n - min t n : Nat) : Int)) c2 rfl ?_
        show some (PyData.int ((n : Int) - ((min t n : Nat) : Int))) = _
        exact congrArg (fun i : Int => some (PyData.int i)) (by omega)
      have e2 : bsB [A, .int (n : Int), R, .list (lN acc), .int (t : Int)] = .nx [A, .int ((n - min t n : Nat) : Int), R, .list (lN (acc ++ [min t n])), .none] := (sSeq_nx ((sIf_t q).trans ((sSeq_nx e1).trans e3))).trans rfl
      obtain ⟨y, hy⟩ := bs_loop A R ts (n - min t n) (acc ++ [min t n]) (by rw [List.length_append, List.length_singleton]; omega)
      refine ⟨y, ?_⟩
      refine (forGo_go (ρ1 := [A, .int (n : Int), R, .list (lN acc), .int (t : Int)]) rfl e2).trans (hy.trans ?_)
      have : SZ.bs (t :: ts) n = min t n :: SZ.bs ts (n - min t n) := by
        conv => lhs; unfold SZ.bs
        rw [if_neg z]
      rw [List.append_assoc, this]
      rfl
theorem bl_ok {ρ : Ev} {c : Option Nat} {n : Nat} {fe : M PyData} (h : fe ρ = .ok (.list (lN (SZ.row c n))) ρ) : iV (eUn dRevL (eSl dSlL fe oNone (oSome (eNeg (eK (.int 1)))))) ρ = .ok (lN (SZ.bl c n)) ρ := by
  have e1 : eSl dSlL fe oNone (oSome (eNeg (eK (.int 1)))) ρ = .ok (.list ((lN (SZ.row c n)).take ((lN (SZ.row c n)).length - 1))) ρ := eSl_ok h rfl rfl (dSlL_but _)
  have e2 : eUn dRevL (eSl dSlL fe oNone (oSome (eNeg (eK (.int 1))))) ρ = .ok (.list (lN (SZ.bl c n))) ρ := by
    refine eUn_ok e1 ?_
    show some (PyData.list _) = _
    rw [lN_len, SZ.row_len, Nat.add_sub_cancel]
    unfold SZ.bl lN
    rw [List.map_reverse, List.map_take]
  exact iV_list e2
theorem best_sizes_ok {c cnt n : Nat} (hn : n ≤ 900) (h : SZ.Fst (some c) (cnt + 1) n) : D_best_sizes [.int (c : Int), .int (cnt : Int)] = .ok (.list (lN (SZ.bs (SZ.bl (some c) n) cnt))) [.int (c : Int), .int (cnt : Int)] := by
  rw [be_eq]
  have c1 : eCall [none, none] (aCons (eV 0) (aCons (eBin dAdd (eV 1) (eK (.int 1))) aNil)) D_ticks_for [.int (c : Int), .int (cnt : Int), .none, .none, .none] = .ok (.list (lN (SZ.row (some c) n))) [.int (c : Int), .int (cnt : Int), .none, .none, .none] := eCall_k (ρ1 := [.int (c : Int), .int (cnt : Int), .none, .none, .none]) [cD (some c), .int ((cnt + 1 : Nat) : Int)] rfl (ticks_for_ok (by omega) h) rfl
  have e0 : sParO 2 3 (eCall [none, none] (aCons (eV 0) (aCons (eBin dAdd (eV 1) (eK (.int 1))) aNil)) D_ticks_for) (eLst aNil) [.int (c : Int), .int (cnt : Int), .none, .none, .none] = .nx [.int (c : Int), .int (cnt : Int), .list (lN (SZ.row (some c) n)), .list (lN []), .none] := (parO_ok c1 rfl).trans rfl
  obtain ⟨z, hz⟩ := bs_loop (.int (c : Int)) (.list (lN (SZ.row (some c) n))) (SZ.bl (some c) n) cnt [] (by rw [SZ.bl_len, List.length_nil]; omega)
  have e1 : sFor (iV (eUn dRevL (eSl dSlL (eV 2) oNone (oSome (eNeg (eK (.int 1))))))) (gN 4) bsB [.int (c : Int), .int (cnt : Int), .list (lN (SZ.row (some c) n)), .list (lN []), .none] = .nx [.int (c : Int), z, .list (lN (SZ.row (some c) n)), .list (lN (SZ.bs (SZ.bl (some c) n) cnt)), .none] := (sFor_ok (bl_ok rfl)).trans hz
  exact fnB_rt' (ρ' := [.int (c : Int), z, .list (lN (SZ.row (some c) n)), .list (lN (SZ.bs (SZ.bl (some c) n) cnt)), .none]) ((sSeq_nx e0).trans ((sSeq_nx e1).trans rfl)) rfl
end GL

/-! heaps; sizes of all kinds. -/
namespace GL
open PySem PySem.Spec PyProof.Rows G SP
open L2 hiding St Inv Binds
theorem ten31 : 10 ^ 31 < 2 ^ 200 := by decide +kernel
theorem up4000 {a : Nat} (h : a < 2 ^ 200) : a < 2 ^ 4000 := Nat.lt_of_lt_of_le h (Nat.pow_le_pow_right (by decide) (by decide))
theorem dMulI_nat {a b : Nat} (h : a < 2 ^ 4000) (h2 : b < 2 ^ 4000) : dMulI (.int (a : Int)) (.int (b : Int)) = some (.int ((a * b : Nat) : Int)) := by
  have : dMulI (.int (a : Int)) (.int (b : Int)) = dMul (.int (a : Int)) (.int (b : Int)) := rfl
  rw [this, dMul_nat h h2]
def hsC : M Bool := eTst asB (eBin dLe (eBin dAdd (eV 3) (eBin dMul (eV 2) (eV 0))) (eBin dAdd (eV 1) (eK (.int 1))))
def hsB : MS := sSeq (sAug 2 dMulI (eV 0)) (sAug 3 dAddI (eV 2))
def hsF : MS := sSeq (sDrop (eAppend 5 (eBin dAdd (eBin dDiv (eBin dSub (eV 3) (eK (.int 1))) (eV 0)) (eCB dMin (aCons (eCB dMax (aCons (eK (.int 0)) (aCons (eBin dSub (eV 4) (eBin dMul (eV 6) (eV 2))) aNil))) (aCons (eV 2) aNil)))))) (sClr [6] sNil)
theorem hs_eq : D_heap_sizes = fnB [false, false] 6 false (sSeq (sAsg (eTup (aCons (eK (.int 1)) (aCons (eK (.int 1)) aNil))) (gT 2 (gC (gN 2) (gC (gN 3) gNi)))) (sSeq (sWhile hsC hsB 100000000) (sSeq (sParO 4 5 (eBin dSub (eBin dAdd (eV 1) (eK (.int 1))) (eV 3)) (eLst aNil)) (sSeq (sFor (aft1 rng1 (aCons (eV 0) aNil)) (gN 6) hsF) (sRet (eLc [7] (iV (eV 5)) (gN 7) (eTst asB (eBin dGt (eV 7) (eK (.int 0)))) (eV 7))))))) := rfl
abbrev H8 (n cnt L w : Nat) (a b c d : PyData) : Ev := [.int (n : Int), .int (cnt : Int), .int (L : Int), .int (w : Int), a, b, c, d]
theorem hs_loop {n cnt : Nat} (hn : 2 ≤ n) (hn8 : n ≤ 8) (hc : cnt ≤ 10 ^ 30) (a b c d : PyData) : ∀ (f L s fuel : Nat), cnt < 2 ^ f * L → n * s ≤ cnt → L ≤ cnt + 1 → f < fuel →
    ∃ L' s', sWhile hsC hsB fuel (H8 n cnt L (1 + n * s) a b c d) = .nx (H8 n cnt L' (1 + n * s') a b c d) ∧ SZ.hp n cnt f L s = (SZ.fill L' n (cnt - n * s')).map (fun x => s' + x) ∧ n * s' ≤ cnt ∧ L' ≤ cnt + 1 := by
  intro f
  have big := ten31
  have q : ∀ L s : Nat, L ≤ cnt + 1 → hsC (H8 n cnt L (1 + n * s) a b c d) = .ok (decide (n * s + n * L ≤ cnt)) (H8 n cnt L (1 + n * s) a b c d) := by
    intro L s hL
    have r := tB (ρ := H8 n cnt L (1 + n * s) a b c d) (g := dLe) (fa := eBin dAdd (eV 3) (eBin dMul (eV 2) (eV 0))) (fb := eBin dAdd (eV 1) (eK (.int 1))) (eBin_ok rfl (eBin_ok rfl rfl (dMul_nat (a := L) (b := n) (up4000 (by omega)) (up4000 (by omega)))) (dAdd_nat (1 + n * s) (L * n))) (eBin_ok (b := .int ((1 : Nat) : Int)) rfl rfl (dAdd_nat cnt 1)) (dLe_nat _ _)
    rw [decide_eq_decide.mpr (by rw [Nat.mul_comm L n]; omega : 1 + n * s + L * n ≤ cnt + 1 ↔ n * s + n * L ≤ cnt)] at r
    exact r
  induction f with
  | zero =>
    intro L s fuel h1 h2 h3 h4
    cases fuel with
    | zero => exact absurd h4 (Nat.not_lt_zero _)
    | succ fuel =>
      have e : L ≤ n * L := Nat.le_mul_of_pos_left L (by omega)
      have q1 := q L s h3
      rw [decide_eq_false (by omega)] at q1
      exact ⟨L, s, sWhile_f q1, rfl, h2, h3⟩
  | succ f ih =>
    intro L s fuel h1 h2 h3 h4
    cases fuel with
    | zero => exact absurd h4 (Nat.not_lt_zero _)
    | succ fuel =>
      have q1 := q L s h3
      by_cases z : n * s + n * L ≤ cnt
      · rw [decide_eq_true z] at q1
        have b2 : hsB (H8 n cnt L (1 + n * s) a b c d) = .nx (H8 n cnt (n * L) (1 + n * (s + L)) a b c d) := by
          have s1 : sAug 2 dMulI (eV 0) (H8 n cnt L (1 + n * s) a b c d) = .nx (H8 n cnt (n * L) (1 + n * s) a b c d) := by
            refine (augs_ok (i := 2) (g := dMulI) (fe := eV 0) (ρ := H8 n cnt L (1 + n * s) a b c d) (ρ' := H8 n cnt L (1 + n * s) a b c d) (d := .int (n : Int)) (e := .int (L : Int)) rfl rfl (dMulI_nat (up4000 (by omega)) (up4000 (by omega)))).trans ?_
            rw [Nat.mul_comm L n]
            rfl
          refine (sSeq_nx s1).trans ((augs_ok (i := 3) (g := dAddI) (fe := eV 2) (ρ := H8 n cnt (n * L) (1 + n * s) a b c d) (ρ' := H8 n cnt (n * L) (1 + n * s) a b c d) (d := .int ((n * L : Nat) : Int)) (e := .int ((1 + n * s : Nat) : Int)) (r := .int ((1 + n * (s + L) : Nat) : Int)) rfl rfl ?_).trans rfl)
          show some (PyData.int (((1 + n * s : Nat) : Int) + ((n * L : Nat) : Int))) = _
          refine congrArg (fun i : Int => some (PyData.int i)) ?_
          rw [Nat.mul_add]; omega
        obtain ⟨L', s', e, g1, g2, g3⟩ := ih (n * L) (s + L) fuel (SZ.hp_pow hn h1) (by rw [Nat.mul_add]; exact z) (by omega) (by omega)
        refine ⟨L', s', ?_, ?_, g2, g3⟩
        · rw [sWhile_t q1 b2]; exact e
        · conv => lhs; unfold SZ.hp
          rw [if_pos z]; exact g1
      · rw [decide_eq_false z] at q1
        refine ⟨L, s, sWhile_f q1, ?_, h2, h3⟩
        conv => lhs; unfold SZ.hp
        rw [if_neg z]
theorem hsF_loop {n cnt L w r s : Nat} (hn : 2 ≤ n) (hn8 : n ≤ 8) (hL : L ≤ 10 ^ 31) (hw : (w - 1) / n = s) (hw1 : 1 ≤ w) (y : PyData) : ∀ (m k : Nat) (acc : List Nat), k + m ≤ 8 → acc.length ≤ k →
    forGo (gN 6) hsF (lN (List.range' k m)) (H8 n cnt L w (.int (r : Int)) (.list (lN acc)) .none y) = .nx (H8 n cnt L w (.int (r : Int)) (.list (lN (acc ++ (List.range' k m).map fun k => s + min (r - k * L) L))) .none y)
  | 0, k, acc, _, _ => by rw [show (List.range' k 0).map (fun k => s + min (r - k * L) L) = [] from rfl, List.append_nil]; rfl
  | m + 1, k, acc, h, hl => by
    have big := ten31
    have c1 : eBin dDiv (eBin dSub (eV 3) (eK (.int 1))) (eV 0) (H8 n cnt L w (.int (r : Int)) (.list (lN acc)) (.int (k : Int)) y) = .ok (.int (s : Int)) (H8 n cnt L w (.int (r : Int)) (.list (lN acc)) (.int (k : Int)) y) := by
      refine eBin_ok (eBin_ok (b := .int ((1 : Nat) : Int)) rfl rfl (dSub_nat hw1)) rfl ?_
      rw [dDiv_nat (by omega) (up4000 (by omega)), hw]
    have c2 : eCB dMax (aCons (eK (.int 0)) (aCons (eBin dSub (eV 4) (eBin dMul (eV 6) (eV 2))) aNil)) (H8 n cnt L w (.int (r : Int)) (.list (lN acc)) (.int (k : Int)) y) = .ok (.int ((r - k * L : Nat) : Int)) (H8 n cnt L w (.int (r : Int)) (.list (lN acc)) (.int (k : Int)) y) := by
      have z : eBin dSub (eV 4) (eBin dMul (eV 6) (eV 2)) (H8 n cnt L w (.int (r : Int)) (.list (lN acc)) (.int (k : Int)) y) = .ok (.int ((r : Int) - ((k * L : Nat) : Int))) (H8 n cnt L w (.int (r : Int)) (.list (lN acc)) (.int (k : Int)) y) := eBin_ok rfl (eBin_ok rfl rfl (dMul_nat (up4000 (by omega)) (up4000 (by omega)))) rfl
      refine eCB_ok (ds := [.int 0, .int ((r : Int) - ((k * L : Nat) : Int))]) (aCons_ok rfl (a1_ok z)) ?_
      show some (PyData.int (if (r : Int) - ((k * L : Nat) : Int) > 0 then (r : Int) - ((k * L : Nat) : Int) else 0)) = _
      refine congrArg (fun i : Int => some (PyData.int i)) ?_
      split <;> omega
    have c3 : eBin dAdd (eBin dDiv (eBin dSub (eV 3) (eK (.int 1))) (eV 0)) (eCB dMin (aCons (eCB dMax (aCons (eK (.int 0)) (aCons (eBin dSub (eV 4) (eBin dMul (eV 6) (eV 2))) aNil))) (aCons (eV 2) aNil))) (H8 n cnt L w (.int (r : Int)) (.list (lN acc)) (.int (k : Int)) y) = .ok (.int ((s + min (r - k * L) L : Nat) : Int)) (H8 n cnt L w (.int (r : Int)) (.list (lN acc)) (.int (k : Int)) y) :=
      eBin_ok c1 (eCB_ok (aCons_ok c2 (a1_ok rfl)) (dMin_nat _ L)) (dAdd_nat _ _)
    have e2 : hsF (H8 n cnt L w (.int (r : Int)) (.list (lN acc)) (.int (k : Int)) y) = .nx (H8 n cnt L w (.int (r : Int)) (.list (lN (acc ++ [s + min (r - k * L) L]))) .none y) := by
      refine (sSeq_nx (sDrop_ok (appd_ok (ds := lN acc) c3 rfl (sz_small (by rw [lN_len]; omega))))).trans ?_
      rw [show [PyData.int ((s + min (r - k * L) L : Nat) : Int)] = lN [s + min (r - k * L) L] from rfl, ← lN_append]
      rfl
    rw [List.range'_succ]
    refine (forGo_go (ρ1 := H8 n cnt L w (.int (r : Int)) (.list (lN acc)) (.int (k : Int)) y) rfl e2).trans ?_
    refine (hsF_loop hn hn8 hL hw hw1 y m (k + 1) (acc ++ [s + min (r - k * L) L]) (by omega) (by rw [List.length_append, List.length_singleton]; omega)).trans ?_
    rw [List.append_assoc]
    rfl
/-- those above 0 -/
theorem pos_ok {vs : List Nat} {i : Nat} {fi : MI} {ρ : Ev} (E : PyData → Ev) (x0 : PyData) (l : List Nat) (hi : fi ρ = .ok (lN l) (E x0)) (hg : ∀ x d, gN i d (E x) = some (E d)) (hv : ∀ x, eV i (E x) = .ok x (E x)) (hr : ∀ y, rst (E x0) vs (E y) = E x0) (hl : l.length ≤ 1000) :
    eLc vs fi (gN i) (eTst asB (eBin dGt (eV i) (eK (.int 0)))) (eV i) ρ = .ok (.list (lN (l.filter fun x => decide (0 < x)))) (E x0) := by
  exact eLc_go (vs := vs) (fi := fi) (g := gN i) (fe := eV i) (fun (k : Nat) => .int (k : Int)) E x0 (fun x => decide (0 < x)) (fun (k : Nat) => .int (k : Int)) l hi hg (fun k hk => ⟨tB (b := .int ((0 : Nat) : Int)) (hv _) rfl (dGt_nat _ _), fun _ => hv _⟩) hr (Nat.le_of_lt (sz_small (by omega)))
theorem rng_n {ρ : Ev} {fe : M PyData} {n : Nat} (h : fe ρ = .ok (.int (n : Int)) ρ) (hn : n ≤ 1000000) : aft1 rng1 (aCons fe aNil) ρ = .ok (lN (List.range' 0 n)) ρ := by
  have r := rng1_ok (j := (n : Int)) (by omega) (by omega)
  rw [Int.toNat_natCast, show (0 : Int) = ((0 : Nat) : Int) from rfl, rngs_lN] at r
  exact aft1_ok (a1_ok h) r
theorem heap_sizes_ok {n cnt : Nat} (hn : 2 ≤ n) (hn8 : n ≤ 8) (hc : cnt ≤ 10 ^ 30) : D_heap_sizes [.int (n : Int), .int (cnt : Int)] = .ok (.list (lN ((SZ.hp n cnt 100 1 0).filter fun x => decide (0 < x)))) [.int (n : Int), .int (cnt : Int)] := by
  have b100 : 10 ^ 30 < 2 ^ 100 * 1 := by decide +kernel
  have b31 : 10 ^ 30 + 1 ≤ 10 ^ 31 := by decide +kernel
  rw [hs_eq]
  have e0 : sAsg (eTup (aCons (eK (.int 1)) (aCons (eK (.int 1)) aNil))) (gT 2 (gC (gN 2) (gC (gN 3) gNi))) [.int (n : Int), .int (cnt : Int), .none, .none, .none, .none, .none, .none] = .nx (H8 n cnt 1 (1 + n * 0) .none .none .none .none) := rfl
  obtain ⟨L, s, e1, g1, g2, g3⟩ := hs_loop hn hn8 hc .none .none .none .none 100 1 0 100000000 (by omega) (by omega) (by omega) (by omega)
  have e2 : sParO 4 5 (eBin dSub (eBin dAdd (eV 1) (eK (.int 1))) (eV 3)) (eLst aNil) (H8 n cnt L (1 + n * s) .none .none .none .none) = .nx (H8 n cnt L (1 + n * s) (.int ((cnt - n * s : Nat) : Int)) (.list (lN [])) .none .none) := by
    have c1 : eBin dSub (eBin dAdd (eV 1) (eK (.int 1))) (eV 3) (H8 n cnt L (1 + n * s) .none .none .none .none) = .ok (.int ((cnt - n * s : Nat) : Int)) (H8 n cnt L (1 + n * s) .none .none .none .none) := by
      refine eBin_ok (eBin_ok (b := .int ((1 : Nat) : Int)) rfl rfl (dAdd_nat cnt 1)) (b := .int ((1 + n * s : Nat) : Int)) rfl ?_
      rw [dSub_nat (by omega)]
      exact congrArg (fun k : Nat => some (PyData.int (k : Int))) (by omega)
    exact (parO_ok (e := .list (lN [])) c1 rfl).trans rfl
  have ed : (1 + n * s - 1) / n = s := by
    rw [show 1 + n * s - 1 = n * s by omega, Nat.mul_div_cancel_left s (by omega)]
  have e3 : sFor (aft1 rng1 (aCons (eV 0) aNil)) (gN 6) hsF (H8 n cnt L (1 + n * s) (.int ((cnt - n * s : Nat) : Int)) (.list (lN [])) .none .none) = .nx (H8 n cnt L (1 + n * s) (.int ((cnt - n * s : Nat) : Int)) (.list (lN (SZ.hp n cnt 100 1 0))) .none .none) := by
    refine (sFor_ok (rng_n (ρ := H8 n cnt L (1 + n * s) (.int ((cnt - n * s : Nat) : Int)) (.list (lN [])) .none .none) (fe := eV 0) (n := n) rfl (by omega))).trans ((hsF_loop hn hn8 (by omega) ed (by omega) .none n 0 [] (by omega) (by decide)).trans ?_)
    rw [List.nil_append, g1, SZ.fill_eq, List.map_map, List.range_eq_range']
    rfl
  have e4 : sRet (eLc [7] (iV (eV 5)) (gN 7) (eTst asB (eBin dGt (eV 7) (eK (.int 0)))) (eV 7)) (H8 n cnt L (1 + n * s) (.int ((cnt - n * s : Nat) : Int)) (.list (lN (SZ.hp n cnt 100 1 0))) .none .none) = .rt (.list (lN ((SZ.hp n cnt 100 1 0).filter fun x => decide (0 < x)))) (H8 n cnt L (1 + n * s) (.int ((cnt - n * s : Nat) : Int)) (.list (lN (SZ.hp n cnt 100 1 0))) .none .none) :=
    sRet_ok (pos_ok (fun y => H8 n cnt L (1 + n * s) (.int ((cnt - n * s : Nat) : Int)) (.list (lN (SZ.hp n cnt 100 1 0))) .none y) .none (SZ.hp n cnt 100 1 0) (iV_list rfl) (fun _ _ => rfl) (fun _ => rfl) (fun _ => rfl) (by rw [SZ.hp_len]; omega))
  exact fnB_rt' (ρ' := H8 n cnt L (1 + n * s) (.int ((cnt - n * s : Nat) : Int)) (.list (lN (SZ.hp n cnt 100 1 0))) .none .none) ((sSeq_nx e0).trans ((sSeq_nx e1).trans ((sSeq_nx e2).trans ((sSeq_nx e3).trans e4)))) rfl
/-! ### kinds -/
def Kd.w : Kd → PySem.Str
  | .parts _ => "parts" | .half => "half" | .best _ => "best" | .heap _ => "heap"
def Kd.isP : Kd → Bool
  | .parts _ => true | _ => false
def Kd.isH : Kd → Bool
  | .half => true | _ => false
def Kd.isB : Kd → Bool
  | .best _ => true | _ => false
def Kd.isT : Kd → Bool
  | .heap _ => true | _ => false
theorem kw {ρ : Ev} {k : Kd} (h : ρ[0]? = some k.D) : eBin dIx (eV 0) (eK (.int 0)) ρ = .ok (.str k.w) ρ := eBin_ok (eV_ok h) rfl (by cases k <;> kernel_rfl)
theorem kP {ρ : Ev} {k : Kd} (h : ρ[0]? = some k.D) : eTst asB (eBin dEq (eBin dIx (eV 0) (eK (.int 0))) (eK (.str "parts"))) ρ = .ok k.isP ρ := tB (kw h) rfl (by cases k <;> kernel_rfl)
theorem kH {ρ : Ev} {k : Kd} (h : ρ[0]? = some k.D) : eTst asB (eBin dEq (eBin dIx (eV 0) (eK (.int 0))) (eK (.str "half"))) ρ = .ok k.isH ρ := tB (kw h) rfl (by cases k <;> kernel_rfl)
theorem kB {ρ : Ev} {k : Kd} (h : ρ[0]? = some k.D) : eTst asB (eBin dEq (eBin dIx (eV 0) (eK (.int 0))) (eK (.str "best"))) ρ = .ok k.isB ρ := tB (kw h) rfl (by cases k <;> kernel_rfl)
theorem kT {ρ : Ev} {k : Kd} (h : ρ[0]? = some k.D) : eTst asB (eBin dEq (eBin dIx (eV 0) (eK (.int 0))) (eK (.str "heap"))) ρ = .ok k.isT ρ := tB (kw h) rfl (by cases k <;> kernel_rfl)
/-- the sizes of the parts of so many people -/
def Sz : Kd → Nat → List Nat → Prop
  | .parts n, cnt, l => l = SZ.ev (min n cnt) (cnt / min n cnt) (cnt % min n cnt)
  | .half, cnt, l => l = SZ.hv 100 cnt
  | .best n, cnt, l => ∃ m, SZ.Fst (some n) (cnt + 1) m ∧ l = SZ.bs (SZ.bl (some n) m) cnt
  | .heap n, cnt, l => l = (SZ.hp n cnt 100 1 0).filter fun x => decide (0 < x)
theorem sum_zero : ∀ {l : List Nat}, l.sum = 0 → (l.filter fun x => decide (0 < x)) = []
  | [], _ => rfl
  | x :: l, h => by
    rw [List.sum_cons] at h
    rw [List.filter_cons, if_neg (by rw [decide_eq_true_eq]; omega)]
    exact sum_zero (by omega)
theorem Sz.zero {k : Kd} (hk : k.Ok) {l : List Nat} (h : Sz k 0 l) : l = [] := by
  cases k with
  | parts n =>
    rw [h, Nat.min_zero]; rfl
  | half => rw [h]; rfl
  | best n =>
    obtain ⟨m, _, e⟩ := h
    rw [e, SZ.bs_zero]
  | heap n =>
    rw [h]
    exact sum_zero (SZ.hp_sum hk.1 100 1 0 (by decide) (by omega))
theorem Sz.ex {k : Kd} (hk : k.Ok) {cnt : Nat} (hc : cnt ≤ 10 ^ 30) : ∃ l, Sz k cnt l := by
  cases k with
  | parts n => exact ⟨_, rfl⟩
  | half => exact ⟨_, rfl⟩
  | heap n => exact ⟨_, rfl⟩
  | best n =>
    obtain ⟨m, hm⟩ := SZ.fst_ex (c := some n) (fun k e => by cases e; exact hk.1) (t := cnt + 1) (by omega)
    exact ⟨_, m, hm, rfl⟩
theorem Sz.sum {k : Kd} (hk : k.Ok) {cnt : Nat} (hc : cnt ≤ 10 ^ 30) {l : List Nat} (h : Sz k cnt l) : l.sum = cnt := by
  have b100 : 10 ^ 30 < 2 ^ 100 := by decide +kernel
  cases k with
  | parts n =>
    rw [h]
    by_cases z : cnt = 0
    · subst z; rw [Nat.min_zero]; rfl
    · have hp : 0 < min n cnt := by have := hk.1; omega
      rw [SZ.ev_sum _ _ _ (Nat.le_of_lt (Nat.mod_lt _ hp)), Nat.mul_comm]
      exact Nat.div_add_mod _ _
  | half =>
    rw [h, SZ.hv_sum 100 cnt (by omega)]
  | best n =>
    obtain ⟨m, hm, e⟩ := h
    rw [e, SZ.bs_sum _ _ (SZ.bl_sum hm)]
  | heap n =>
    rw [h, SZ.sum_pos, SZ.hp_sum hk.1 100 1 0 (by omega) (by omega)]
theorem Sz.len {k : Kd} (hk : k.Ok) {cnt : Nat} (hc : cnt ≤ 10 ^ 30) {l : List Nat} (h : Sz k cnt l) : l.length ≤ 200 := by
  cases k with
  | parts n =>
    obtain ⟨h1, h2⟩ := hk
    rw [h]; unfold SZ.ev
    rw [List.length_map, List.length_range]; omega
  | half =>
    rw [h]; have := SZ.hv_len 100 cnt; omega
  | best n =>
    obtain ⟨m, hm, e⟩ := h
    have h1 := hm.le (c := some n) (fun k e => by cases e; exact hk.1) (by omega)
    have h2 := SZ.bs_len (SZ.bl (some n) m) cnt
    rw [SZ.bl_len] at h2
    rw [e]; omega
  | heap n =>
    obtain ⟨h1, h2⟩ := hk
    rw [h]
    have h3 := List.length_filter_le (fun x => decide (0 < x)) (SZ.hp n cnt 100 1 0)
    rw [SZ.hp_len] at h3
    omega
theorem sizes_of_ok {k : Kd} (hk : k.Ok) {cnt : Nat} (hc : cnt ≤ 10 ^ 30) {l : List Nat} (h : Sz k cnt l) : D_sizes_of [k.D, .int (cnt : Int)] = .ok (.list (lN l)) [k.D, .int (cnt : Int)] := by
  have b100 : 10 ^ 30 < 2 ^ 100 := by decide +kernel
  unfold D_sizes_of
  refine fnB_rt' (ρ' := [k.D, .int (cnt : Int)]) ?_ rfl
  have q0 : eTst asB (eBin dEq (eV 1) (eK (.int 0))) ([k.D, .int (cnt : Int)] ++ List.replicate 0 .none) = .ok ((cnt : Int) == (0 : Int)) [k.D, .int (cnt : Int)] := tB rfl rfl (G.eq_int _ _)
  by_cases z : cnt = 0
  · subst z
    rw [Sz.zero hk h]
    exact sSeq_rt ((sIf_t q0).trans rfl)
  · rw [show ((cnt : Int) == (0 : Int)) = false by rw [beq_eq_false_iff_ne]; omega] at q0
    refine (sSeq_nx (sIf_nil q0)).trans ?_
    have qP := kP (ρ := [k.D, .int (cnt : Int)]) (k := k) rfl
    have qH := kH (ρ := [k.D, .int (cnt : Int)]) (k := k) rfl
    have qB := kB (ρ := [k.D, .int (cnt : Int)]) (k := k) rfl
    cases k with
    | parts n =>
      obtain ⟨h1, h2⟩ := hk
      rw [h]
      exact sSeq_rt ((sIf_t qP).trans (sRet_ok (eCall_k (ρ1 := [(Kd.parts n).D, .int (cnt : Int)]) [.int (n : Int), .int (cnt : Int)] rfl (even_sizes_ok (by omega) h2) rfl)))
    | half =>
      rw [h]
      exact (sSeq_nx (sIf_nil qP)).trans (sSeq_rt ((sIf_t qH).trans (sRet_ok (eCall_k (ρ1 := [Kd.half.D, .int (cnt : Int)]) [.int (cnt : Int)] rfl (half_sizes_ok (by omega)) rfl))))
    | best n =>
      obtain ⟨m, hm, e⟩ := h
      have h1 := hm.le (c := some n) (fun k e => by cases e; exact hk.1) (by omega)
      rw [e]
      exact (sSeq_nx (sIf_nil qP)).trans ((sSeq_nx (sIf_nil qH)).trans (sRet_ok ((eIf_t qB).trans (eCall_k (ρ1 := [(Kd.best n).D, .int (cnt : Int)]) [.int (n : Int), .int (cnt : Int)] rfl (best_sizes_ok (by omega) hm) rfl))))
    | heap n =>
      obtain ⟨h1, h2⟩ := hk
      rw [h]
      exact (sSeq_nx (sIf_nil qP)).trans ((sSeq_nx (sIf_nil qH)).trans (sRet_ok ((eIf_f qB).trans (eCall_k (ρ1 := [(Kd.heap n).D, .int (cnt : Int)]) [.int (n : Int), .int (cnt : Int)] rfl (heap_sizes_ok h1 h2 hc) rfl))))
theorem sizes_ok {k : Kd} (hk : k.Ok) {cnt : Nat} (hc : cnt ≤ 10 ^ 30) {l : List Nat} (h : Sz k cnt l) : D_sizes [k.D, .int (cnt : Int)] = .ok (.tuple (lN l)) [k.D, .int (cnt : Int)] := by
  have e30 : ((10 ^ 30 : Nat) : Int) = 1000000000000000000000000000000 := by decide +kernel
  unfold D_sizes
  refine fnB_rt' (ρ' := [k.D, .int (cnt : Int)]) ?_ rfl
  have e0 : sDrop (eCall [none] (aCons (eV 0) aNil) D_need_kind) ([k.D, .int (cnt : Int)] ++ List.replicate 0 .none) = .nx [k.D, .int (cnt : Int)] := sDrop_ok (eCall_k (ρ1 := [k.D, .int (cnt : Int)]) [k.D] rfl (need_kind_ok hk) rfl)
  have w := is_whole_ok (cnt : Int) 0 1000000000000000000000000000000
  rw [decide_eq_true (by omega), decide_eq_true (by omega)] at w
  have c1 : eCall [none, none, none] (aCons (eV 1) (aCons (eK (.int 0)) (aCons (eK (.int 1000000000000000000000000000000)) aNil))) D_is_whole [k.D, .int (cnt : Int)] = .ok (.bool true) [k.D, .int (cnt : Int)] := eCall_k (ρ1 := [k.D, .int (cnt : Int)]) [.int (cnt : Int), .int 0, .int 1000000000000000000000000000000] rfl w rfl
  have e1 : sIf (bNot (eTst asB (eCall [none, none, none] (aCons (eV 1) (aCons (eK (.int 0)) (aCons (eK (.int 1000000000000000000000000000000)) aNil))) D_is_whole))) sBad sNil [k.D, .int (cnt : Int)] = .nx [k.D, .int (cnt : Int)] := sIf_nil (bNot_ok (b := true) (eTst_ok c1 rfl))
  have c2 : eCall [none, none] (aCons (eV 0) (aCons (eV 1) aNil)) D_sizes_of [k.D, .int (cnt : Int)] = .ok (.list (lN l)) [k.D, .int (cnt : Int)] := eCall_k (ρ1 := [k.D, .int (cnt : Int)]) [k.D, .int (cnt : Int)] rfl (sizes_of_ok hk hc h) rfl
  exact (sSeq_nx e0).trans ((sSeq_nx e1).trans (sRet_ok (eCB_ok (a1_ok c2) rfl)))
end GL

/-! the law's own parting. -/
namespace GL
open PySem PySem.Spec PyProof.Rows G SP
open L2 hiding St Inv Binds
def lbC : M Bool := eTst asB (eBin dGt (eV 3) (eK (.int 0)))
def lbF : MS := sSeq (sSet 6 (eCB dMin (aCons (eV 2) (aCons (eV 3) aNil)))) (sSeq (sAsg (eTup (aCons (eBin dAdd (eBin dIx (eV 4) (eV 5)) (eV 6)) (aCons (eBin dSub (eV 3) (eV 6)) aNil))) (gT 2 (gC (putLd 4 (eV 5)) (gC (gN 3) gNi)))) (sClr [5, 6] sNil))
def lbB : MS := sSeq (sFor (aft1 rng1 (aCons (eV 0) aNil)) (gN 5) lbF) (sSet 2 (eBin dMul (eV 2) (eV 0)))
theorem lb_eq : D_law_below = fnB [false, false] 6 false (sSeq (sPar3 2 3 4 (eK (.int 1)) (eV 1) (eBin dMulL (eLst (aCons (eK (.int 0)) aNil)) (eV 0))) (sSeq (sWhile lbC lbB 100000000) (sRet (eLc [7] (iV (eV 4)) (gN 7) (eTst asB (eBin dGt (eV 7) (eK (.int 0)))) (eV 7))))) := rfl
abbrev B8 (n cnt L r : Nat) (l : List Nat) (a b c : PyData) : Ev := [.int (n : Int), .int (cnt : Int), .int (L : Int), .int (r : Int), .list (lN l), a, b, c]
theorem getD_mid (pre post : List Nat) (x : Nat) : (pre ++ x :: post).getD pre.length 0 = x := by
  rw [List.getD_eq_getElem?_getD, List.getElem?_append_right (Nat.le_refl _), Nat.sub_self]; rfl
theorem set_mid (pre post : List Nat) (x y : Nat) : (lN (pre ++ x :: post)).set pre.length (.int (y : Int)) = lN (pre ++ y :: post) := by
  rw [lN_append, lN_append, List.set_append_right _ _ (by rw [lN_len]; exact Nat.le_refl _), lN_len, Nat.sub_self]
  rfl
theorem lbF_loop {n cnt L s : Nat} (c : PyData) : ∀ (m r : Nat) (pre : List Nat), forGo (gN 5) lbF (lN (List.range' pre.length m)) (B8 n cnt L r (pre ++ List.replicate m s) .none .none c) = .nx (B8 n cnt L (r - (SZ.fill L m r).sum) (pre ++ (SZ.fill L m r).map fun x => s + x) .none .none c)
  | 0, r, pre => by
    show SR.nx _ = _
    rw [show SZ.fill L 0 r = [] from rfl]
    rfl
  | m + 1, r, pre => by
    have s0 : sSet 6 (eCB dMin (aCons (eV 2) (aCons (eV 3) aNil))) (B8 n cnt L r (pre ++ List.replicate (m + 1) s) (.int (pre.length : Int)) .none c) = .nx (B8 n cnt L r (pre ++ List.replicate (m + 1) s) (.int (pre.length : Int)) (.int ((min L r : Nat) : Int)) c) := by
      have q : eCB dMin (aCons (eV 2) (aCons (eV 3) aNil)) (B8 n cnt L r (pre ++ List.replicate (m + 1) s) (.int (pre.length : Int)) .none c) = .ok (.int ((min L r : Nat) : Int)) (B8 n cnt L r (pre ++ List.replicate (m + 1) s) (.int (pre.length : Int)) .none c) := eCB_ok (ds := [.int (L : Int), .int (r : Int)]) rfl (dMin_nat _ _)
      exact sSet_ok q
    have a1 : eBin dAdd (eBin dIx (eV 4) (eV 5)) (eV 6) (B8 n cnt L r (pre ++ List.replicate (m + 1) s) (.int (pre.length : Int)) (.int ((min L r : Nat) : Int)) c) = .ok (.int ((s + min L r : Nat) : Int)) (B8 n cnt L r (pre ++ List.replicate (m + 1) s) (.int (pre.length : Int)) (.int ((min L r : Nat) : Int)) c) := by
      refine eBin_ok (eBin_ok (b := .int (pre.length : Int)) (r := .int (s : Int)) rfl rfl ?_) rfl (dAdd_nat _ _)
      rw [dIx_lN (by rw [List.length_append, List.length_replicate]; omega), List.replicate_succ, getD_mid]
    have a2 : eBin dSub (eV 3) (eV 6) (B8 n cnt L r (pre ++ List.replicate (m + 1) s) (.int (pre.length : Int)) (.int ((min L r : Nat) : Int)) c) = .ok (.int ((r - min L r : Nat) : Int)) (B8 n cnt L r (pre ++ List.replicate (m + 1) s) (.int (pre.length : Int)) (.int ((min L r : Nat) : Int)) c) := eBin_ok (a := .int (r : Int)) (b := .int ((min L r : Nat) : Int)) rfl rfl (dSub_nat (Nat.min_le_right _ _))
    have g1 : putLd 4 (eV 5) (.int ((s + min L r : Nat) : Int)) (B8 n cnt L r (pre ++ List.replicate (m + 1) s) (.int (pre.length : Int)) (.int ((min L r : Nat) : Int)) c) = some (B8 n cnt L r (pre ++ (s + min L r) :: List.replicate m s) (.int (pre.length : Int)) (.int ((min L r : Nat) : Int)) c) := by
      have ix : ixN (lN (pre ++ List.replicate (m + 1) s)).length (pre.length : Int) = some pre.length := by
        unfold ixN
        rw [if_pos (by omega), lN_len, List.length_append, List.length_replicate, if_pos (by omega), Int.toNat_natCast]
      show (match ixN (lN (pre ++ List.replicate (m + 1) s)).length (pre.length : Int) with
        | some j => some (List.set (B8 n cnt L r (pre ++ List.replicate (m + 1) s) (.int (pre.length : Int)) (.int ((min L r : Nat) : Int)) c) 4 (.list ((lN (pre ++ List.replicate (m + 1) s)).set j (.int ((s + min L r : Nat) : Int)))))
        | none => none) = _
      rw [ix]
      dsimp only
      rw [List.replicate_succ, set_mid]
      rfl
    have g2 : gT 2 (gC (putLd 4 (eV 5)) (gC (gN 3) gNi)) (.tuple [.int ((s + min L r : Nat) : Int), .int ((r - min L r : Nat) : Int)]) (B8 n cnt L r (pre ++ List.replicate (m + 1) s) (.int (pre.length : Int)) (.int ((min L r : Nat) : Int)) c) = some (B8 n cnt L (r - min L r) (pre ++ (s + min L r) :: List.replicate m s) (.int (pre.length : Int)) (.int ((min L r : Nat) : Int)) c) := by
      show (match putLd 4 (eV 5) (.int ((s + min L r : Nat) : Int)) (B8 n cnt L r (pre ++ List.replicate (m + 1) s) (.int (pre.length : Int)) (.int ((min L r : Nat) : Int)) c) with
        | some ρ' => gC (gN 3) gNi [.int ((r - min L r : Nat) : Int)] ρ'
        | none => none) = _
      rw [g1]
      rfl
    have e2 : lbF (B8 n cnt L r (pre ++ List.replicate (m + 1) s) (.int (pre.length : Int)) .none c) = .nx (B8 n cnt L (r - min L r) ((pre ++ [s + min L r]) ++ List.replicate m s) .none .none c) := by
      refine (sSeq_nx s0).trans ((sSeq_nx (sAsg_ok (eTup_ok (aCons_ok a1 (a1_ok a2)) (by show 2 ≤ 1000; decide)) g2)).trans ?_)
      rw [List.append_assoc]
      rfl
    have ih := lbF_loop (n := n) (cnt := cnt) (L := L) (s := s) c m (r - min L r) (pre ++ [s + min L r])
    rw [List.length_append, List.length_singleton] at ih
    have ef : SZ.fill L (m + 1) r = min L r :: SZ.fill L m (r - min L r) := rfl
    rw [List.range'_succ]
    refine (forGo_go (ρ1 := B8 n cnt L r (pre ++ List.replicate (m + 1) s) (.int (pre.length : Int)) .none c) rfl e2).trans (ih.trans ?_)
    rw [ef, List.sum_cons, List.map_cons, List.append_assoc, show r - min L r - (SZ.fill L m (r - min L r)).sum = r - (min L r + (SZ.fill L m (r - min L r)).sum) by omega]
    rfl
theorem rep_eq (n s : Nat) : ∀ L, (SZ.fill L n 0).map (fun x => s + x) = List.replicate n s := by
  intro L
  induction n with
  | zero => rfl
  | succ n ih =>
    have ef : SZ.fill L (n + 1) 0 = min L 0 :: SZ.fill L n (0 - min L 0) := rfl
    rw [ef, List.map_cons, List.replicate_succ, Nat.min_zero, Nat.sub_zero, ih]; rfl
theorem lb_while {n cnt : Nat} (hn : 2 ≤ n) (hn8 : n ≤ 8) (hc : cnt ≤ 10 ^ 30) (c : PyData) : ∀ (f L s fuel : Nat), cnt < 2 ^ f * L → n * s ≤ cnt → L ≤ cnt + 1 → 1 ≤ L → f + 2 ≤ fuel →
    ∃ L' r', sWhile lbC lbB fuel (B8 n cnt L (cnt - n * s) (List.replicate n s) .none .none c) = .nx (B8 n cnt L' r' (SZ.hp n cnt f L s) .none .none c) := by
  intro f
  have big := ten31
  have b31 : 10 ^ 30 + 1 ≤ 10 ^ 31 := by decide +kernel
  have q : ∀ (L r : Nat) (l : List Nat), lbC (B8 n cnt L r l .none .none c) = .ok (decide (0 < r)) (B8 n cnt L r l .none .none c) := fun L r l => tB (b := .int ((0 : Nat) : Int)) rfl rfl (dGt_nat _ _)
  have body : ∀ L s : Nat, L ≤ cnt + 1 → lbB (B8 n cnt L (cnt - n * s) (List.replicate n s) .none .none c) = .nx (B8 n cnt (L * n) (cnt - n * s - (SZ.fill L n (cnt - n * s)).sum) ((SZ.fill L n (cnt - n * s)).map fun x => s + x) .none .none c) := by
    intro L s hL
    have e1 : sFor (aft1 rng1 (aCons (eV 0) aNil)) (gN 5) lbF (B8 n cnt L (cnt - n * s) (List.replicate n s) .none .none c) = .nx (B8 n cnt L (cnt - n * s - (SZ.fill L n (cnt - n * s)).sum) ((SZ.fill L n (cnt - n * s)).map fun x => s + x) .none .none c) :=
      (sFor_ok (rng_n (ρ := B8 n cnt L (cnt - n * s) (List.replicate n s) .none .none c) (fe := eV 0) (n := n) rfl (by omega))).trans (lbF_loop c n (cnt - n * s) [])
    have e2 : eBin dMul (eV 2) (eV 0) (B8 n cnt L (cnt - n * s - (SZ.fill L n (cnt - n * s)).sum) ((SZ.fill L n (cnt - n * s)).map fun x => s + x) .none .none c) = .ok (.int ((L * n : Nat) : Int)) (B8 n cnt L (cnt - n * s - (SZ.fill L n (cnt - n * s)).sum) ((SZ.fill L n (cnt - n * s)).map fun x => s + x) .none .none c) := eBin_ok (a := .int (L : Int)) (b := .int (n : Int)) rfl rfl (dMul_nat (up4000 (by omega)) (up4000 (by omega)))
    exact (sSeq_nx e1).trans (sSet_ok e2)
  have last : ∀ L s fuel : Nat, L ≤ cnt + 1 → 1 ≤ L → 2 ≤ fuel → ¬ n * s + n * L ≤ cnt → n * s ≤ cnt → ∃ L' r', sWhile lbC lbB fuel (B8 n cnt L (cnt - n * s) (List.replicate n s) .none .none c) = .nx (B8 n cnt L' r' ((SZ.fill L n (cnt - n * s)).map fun x => s + x) .none .none c) := by
    intro L s fuel h1 h2 h3 h4 h5
    obtain ⟨fuel, rfl⟩ : ∃ g, fuel = g + 2 := ⟨fuel - 2, by omega⟩
    have q1 := q L (cnt - n * s) (List.replicate n s)
    by_cases z : cnt - n * s = 0
    · rw [z] at q1 ⊢
      refine ⟨L, 0, ?_⟩
      rw [rep_eq]
      exact sWhile_f q1
    · rw [decide_eq_true (by omega)] at q1
      have b := body L s h1
      rw [SZ.fill_sum L n _ (by omega), Nat.sub_self] at b
      refine ⟨L * n, 0, ?_⟩
      rw [sWhile_t q1 b]
      exact sWhile_f (q (L * n) 0 _)
  induction f with
  | zero =>
    intro L s fuel h1 h2 h3 h4 h5
    have e : L ≤ n * L := Nat.le_mul_of_pos_left L (by omega)
    exact last L s fuel h3 h4 (by omega) (by omega) h2
  | succ f ih =>
    intro L s fuel h1 h2 h3 h4 h5
    by_cases z : n * s + n * L ≤ cnt
    · have e : SZ.hp n cnt (f + 1) L s = SZ.hp n cnt f (n * L) (s + L) := by
        conv => lhs; unfold SZ.hp
        rw [if_pos z]
      have eL : L ≤ n * L := Nat.le_mul_of_pos_left L (by omega)
      obtain ⟨fuel, rfl⟩ : ∃ g, fuel = g + 1 := ⟨fuel - 1, by omega⟩
      have q1 := q L (cnt - n * s) (List.replicate n s)
      rw [decide_eq_true (by omega)] at q1
      have b := body L s h3
      rw [SZ.fill_full L n _ (by omega), List.map_replicate, Nat.mul_comm L n, List.sum_replicate_nat, show cnt - n * s - n * L = cnt - n * (s + L) by rw [Nat.mul_add]; omega] at b
      obtain ⟨L', r', g⟩ := ih (n * L) (s + L) fuel (SZ.hp_pow hn h1) (by rw [Nat.mul_add]; exact z) (by omega) (by omega) (by omega)
      refine ⟨L', r', ?_⟩
      rw [sWhile_t q1 b, e]
      exact g
    · have e : SZ.hp n cnt (f + 1) L s = (SZ.fill L n (cnt - n * s)).map fun x => s + x := by
        conv => lhs; unfold SZ.hp
        rw [if_neg z]
      rw [e]
      exact last L s fuel h3 h4 (by omega) z h2
theorem repD_lN (n : Nat) : repD n [.int 0] = lN (List.replicate n 0) := by
  unfold repD
  induction n with
  | zero => rfl
  | succ n ih =>
    rw [List.replicate_succ, List.flatten_cons, ih, List.replicate_succ]; rfl
theorem law_below_ok {n cnt : Nat} (hn : 2 ≤ n) (hn8 : n ≤ 8) (hc : cnt ≤ 10 ^ 30) : D_law_below [.int (n : Int), .int (cnt : Int)] = .ok (.list (lN ((SZ.hp n cnt 100 1 0).filter fun x => decide (0 < x)))) [.int (n : Int), .int (cnt : Int)] := by
  have b100 : 10 ^ 30 < 2 ^ 100 * 1 := by decide +kernel
  have e63 : (1000000 : Int) < 2 ^ 63 := by decide +kernel
  rw [lb_eq]
  have m0 : eBin dMulL (eLst (aCons (eK (.int 0)) aNil)) (eV 0) [.int (n : Int), .int (cnt : Int), .none, .none, .none, .none, .none, .none] = .ok (.list (lN (List.replicate n 0))) [.int (n : Int), .int (cnt : Int), .none, .none, .none, .none, .none, .none] := by
    refine eBin_ok (a := .list [.int 0]) (b := .int (n : Int)) rfl rfl ?_
    have hz : [PyData.int 0].length * ((n : Int)).toNat ≤ sizeLine := by
      have := sz_small (n := n) (by omega)
      rw [Int.toNat_natCast, List.length_singleton, Nat.one_mul]
      omega
    have c : -(2 ^ 63) ≤ (n : Int) ∧ (n : Int) < 2 ^ 63 ∧ [PyData.int 0].length * ((n : Int)).toNat ≤ sizeLine := ⟨by omega, by omega, hz⟩
    have u : dMulL (.list [.int 0]) (.int (n : Int)) = if -(2 ^ 63) ≤ (n : Int) ∧ (n : Int) < 2 ^ 63 ∧ [PyData.int 0].length * ((n : Int)).toNat ≤ sizeLine then some (.list (repD ((n : Int)).toNat [.int 0])) else none := rfl
    rw [u, if_pos c, Int.toNat_natCast, repD_lN]
  have e0 : sPar3 2 3 4 (eK (.int 1)) (eV 1) (eBin dMulL (eLst (aCons (eK (.int 0)) aNil)) (eV 0)) [.int (n : Int), .int (cnt : Int), .none, .none, .none, .none, .none, .none] = .nx (B8 n cnt 1 (cnt - n * 0) (List.replicate n 0) .none .none .none) := by
    rw [Nat.mul_zero, Nat.sub_zero]
    have q := par3_ok (i := 2) (j := 3) (l := 4) (fa := eK (.int 1)) (fb := eV 1) (ρ := [.int (n : Int), .int (cnt : Int), .none, .none, .none, .none, .none, .none]) (ρ1 := [.int (n : Int), .int (cnt : Int), .none, .none, .none, .none, .none, .none]) (d := .int 1) (e := .int (cnt : Int)) rfl rfl m0
    exact q
  obtain ⟨L, r, e1⟩ := lb_while hn hn8 hc .none 100 1 0 100000000 (by omega) (by omega) (by omega) (by omega) (by omega)
  have e4 : sRet (eLc [7] (iV (eV 4)) (gN 7) (eTst asB (eBin dGt (eV 7) (eK (.int 0)))) (eV 7)) (B8 n cnt L r (SZ.hp n cnt 100 1 0) .none .none .none) = .rt (.list (lN ((SZ.hp n cnt 100 1 0).filter fun x => decide (0 < x)))) (B8 n cnt L r (SZ.hp n cnt 100 1 0) .none .none .none) :=
    sRet_ok (pos_ok (fun y => B8 n cnt L r (SZ.hp n cnt 100 1 0) .none .none y) .none (SZ.hp n cnt 100 1 0) (iV_list rfl) (fun _ _ => rfl) (fun _ => rfl) (fun _ => rfl) (by rw [SZ.hp_len]; omega))
  exact fnB_rt' (ρ' := B8 n cnt L r (SZ.hp n cnt 100 1 0) .none .none .none) ((sSeq_nx e0).trans ((sSeq_nx e1).trans e4)) rfl
end GL

/-! the law's own sizes. -/
namespace GL
open PySem PySem.Spec PyProof.Rows G SP
open L2 hiding St Inv Binds
theorem mr_eq : D_law_most_row = D_ticks_for := rfl
def lsP : MS := sSeq (sSet 5 (eBin dSub (eK (.int 0)) (eBin dDiv (eBin dSub (eK (.int 0)) (eV 3)) (eBin dSub (eCB dMin (aCons (eBin dIx (eV 0) (eK (.int 1))) (aCons (eV 1) aNil))) (eV 4))))) (sSeq (sPar 2 3 (aCons (eBin dAddL (eV 2) (eLst (aCons (eV 5) aNil))) (aCons (eBin dSub (eV 3) (eV 5)) aNil))) (sClr [4, 5] sNil))
def lsC : M Bool := eTst asB (eBin dGt (eV 3) (eK (.int 0)))
def lsH : MS := sSeq (sSet 5 (eBin dSub (eV 3) (eBin dDiv (eV 3) (eK (.int 2))))) (sSeq (sPar 2 3 (aCons (eBin dAddL (eV 2) (eLst (aCons (eV 5) aNil))) (aCons (eBin dSub (eV 3) (eV 5)) aNil))) (sClr [5] sNil))
def lsO : M PyData := eIf (eTst asB (eBin dGt (eV 5) (eK (.int 0)))) (eLst (aCons (eV 5) aNil)) (eLst aNil)
def lsB : MS := sSeq (sSet 5 (eCB dMin (aCons (eV 6) (aCons (eV 3) aNil)))) (sSeq (sPar 2 3 (aCons (eBin dAddL (eV 2) lsO) (aCons (eBin dSub (eV 3) (eV 5)) aNil))) (sClr [5, 6] sNil))
def lsR : MI := iV (eUn dRevL (eSl dSlL (eCall [none, none] (aCons (eBin dIx (eV 0) (eK (.int 1))) (aCons (eBin dAdd (eV 1) (eK (.int 1))) aNil)) D_law_most_row) oNone (oSome (eNeg (eK (.int 1))))))
theorem ls_eq : D_law_sizes = fnB [false, false] 5 false (sSeq (sPar 2 3 (aCons (eLst aNil) (aCons (eV 1) aNil))) (sSeq (sIf (eTst asB (eBin dEq (eBin dIx (eV 0) (eK (.int 0))) (eK (.str "heap")))) (sRet (eCall [none, none] (aCons (eBin dIx (eV 0) (eK (.int 1))) (aCons (eV 1) aNil)) D_law_below)) sNil) (sSeq (sIf (eTst asB (eBin dEq (eBin dIx (eV 0) (eK (.int 0))) (eK (.str "parts")))) (sFor (aft1 rng1 (aCons (eCB dMin (aCons (eBin dIx (eV 0) (eK (.int 1))) (aCons (eV 1) aNil))) aNil)) (gN 4) lsP) (sIf (eTst asB (eBin dEq (eBin dIx (eV 0) (eK (.int 0))) (eK (.str "half")))) (sWhile lsC lsH 100000000) (sFor lsR (gN 6) lsB))) (sRet (eV 2))))) := rfl
abbrev E7 (k : Kd) (cnt : Nat) (l : List Nat) (r : Nat) (a b c : PyData) : Ev := [k.D, .int (cnt : Int), .list (lN l), .int (r : Int), a, b, c]
theorem add1_ok {ρ : Ev} {fa fb : M PyData} {l : List Nat} {x : Nat} (ha : fa ρ = .ok (.list (lN l)) ρ) (hb : fb ρ = .ok (.list [.int (x : Int)]) ρ) (hl : l.length ≤ 1000) : eBin dAddL fa fb ρ = .ok (.list (lN (l ++ [x]))) ρ := by
  refine eBin_ok ha hb ?_
  have h : (lN l).length + [PyData.int (x : Int)].length ≤ sizeLine := by
    rw [lN_len, List.length_singleton]
    exact Nat.le_of_lt (sz_small (by omega))
  have u : dAddL (.list (lN l)) (.list [.int (x : Int)]) = if (lN l).length + [PyData.int (x : Int)].length ≤ sizeLine then some (.list (lN l ++ [.int (x : Int)])) else none := rfl
  rw [u, if_pos h, lN_append]
  rfl
theorem ceil_eq {q d e : Nat} (h : e < d) : (0 : Int) - ((0 : Int) - ((q * d + e : Nat) : Int)) / ((d : Nat) : Int) = ((q + (if 0 < e then 1 else 0) : Nat) : Int) := by
  by_cases z : 0 < e
  · rw [if_pos z]
    have r : (0 : Int) - ((q * d + e : Nat) : Int) = ((d : Int) - (e : Int)) + (-((q : Int) + 1)) * (d : Int) := by
      rw [Int.neg_mul, Int.add_mul, Int.one_mul]
      have : ((q * d + e : Nat) : Int) = (q : Int) * (d : Int) + (e : Int) := by simp
      rw [this]; omega
    rw [r, Int.add_mul_ediv_right _ _ (by omega), Int.ediv_eq_zero_of_lt (by omega) (by omega)]
    omega
  · have : e = 0 := by omega
    subst this
    rw [if_neg z]
    have r : (0 : Int) - ((q * d + 0 : Nat) : Int) = (-(q : Int)) * (d : Int) := by
      rw [Int.neg_mul]
      have : ((q * d + 0 : Nat) : Int) = (q : Int) * (d : Int) := by simp
      rw [this]; omega
    rw [r, Int.mul_ediv_cancel _ (by omega)]
    omega
theorem ev_take (p q r k : Nat) (h : k < p) : ((SZ.ev p q r).take k) ++ [q + (if k < r then 1 else 0)] = (SZ.ev p q r).take (k + 1) := by
  have hl : k < (SZ.ev p q r).length := by unfold SZ.ev; rw [List.length_map, List.length_range]; exact h
  have e : (SZ.ev p q r)[k] = q + (if k < r then 1 else 0) := by simp only [SZ.ev, List.getElem_map, List.getElem_range]
  rw [List.take_succ_eq_append_getElem hl, e]
theorem lsP_loop {n cnt p q r : Nat} (hp : min n cnt = p) (hn8 : n ≤ 8) (hr : r < p) (c : PyData) : ∀ (m k : Nat), k + m = p →
    forGo (gN 4) lsP (lN (List.range' k m)) (E7 (.parts n) cnt ((SZ.ev p q r).take k) (q * (p - k) + (r - k)) .none .none c) = .nx (E7 (.parts n) cnt (SZ.ev p q r) 0 .none .none c)
  | 0, k, h => by
    have : k = p := by omega
    subst this
    have e : (SZ.ev k q r).take k = SZ.ev k q r := List.take_of_length_le (by unfold SZ.ev; rw [List.length_map, List.length_range]; exact Nat.le_refl _)
    rw [e, Nat.sub_self, Nat.mul_zero, show r - k = 0 by omega]
    rfl
  | m + 1, k, h => by
    have big : 8 < 2 ^ 4000 := Nat.lt_of_lt_of_le (by decide : 8 < 2 ^ 4) (Nat.pow_le_pow_right (by decide) (by decide))
    have hd : r - k < p - k := by omega
    have h8 : p ≤ 8 := by omega
    generalize hL : q * (p - k) + (r - k) = L
    generalize hx : q + (if k < r then 1 else 0) = x
    have cx : (0 : Int) - ((0 : Int) - (L : Int)) / ((p - k : Nat) : Int) = (x : Int) := by
      rw [← hL, ceil_eq hd, ← hx]
      by_cases z : k < r
      · rw [if_pos z, if_pos (by omega)]
      · rw [if_neg z, if_neg (by omega)]
    have c1 : eBin dSub (eCB dMin (aCons (eBin dIx (eV 0) (eK (.int 1))) (aCons (eV 1) aNil))) (eV 4) (E7 (.parts n) cnt ((SZ.ev p q r).take k) L (.int (k : Int)) .none c) = .ok (.int ((p - k : Nat) : Int)) (E7 (.parts n) cnt ((SZ.ev p q r).take k) L (.int (k : Int)) .none c) := by
      refine eBin_ok (a := .int (p : Int)) (b := .int (k : Int)) (eCB_ok (ds := [.int (n : Int), .int (cnt : Int)]) rfl ?_) rfl (dSub_nat (by omega))
      rw [dMin_nat, hp]
    have c2 : eBin dSub (eK (.int 0)) (eBin dDiv (eBin dSub (eK (.int 0)) (eV 3)) (eBin dSub (eCB dMin (aCons (eBin dIx (eV 0) (eK (.int 1))) (aCons (eV 1) aNil))) (eV 4))) (E7 (.parts n) cnt ((SZ.ev p q r).take k) L (.int (k : Int)) .none c) = .ok (.int (x : Int)) (E7 (.parts n) cnt ((SZ.ev p q r).take k) L (.int (k : Int)) .none c) := by
      refine eBin_ok (a := .int 0) (b := .int (((0 : Int) - (L : Int)) / ((p - k : Nat) : Int))) rfl (eBin_ok (a := .int ((0 : Int) - (L : Int))) (b := .int ((p - k : Nat) : Int)) rfl c1 ?_) ?_
      · exact dDiv_ok (by omega) (by show p - k < _; omega)
      · show some (PyData.int _) = _
        rw [cx]
    have s0 : sSet 5 (eBin dSub (eK (.int 0)) (eBin dDiv (eBin dSub (eK (.int 0)) (eV 3)) (eBin dSub (eCB dMin (aCons (eBin dIx (eV 0) (eK (.int 1))) (aCons (eV 1) aNil))) (eV 4)))) (E7 (.parts n) cnt ((SZ.ev p q r).take k) L (.int (k : Int)) .none c) = .nx (E7 (.parts n) cnt ((SZ.ev p q r).take k) L (.int (k : Int)) (.int (x : Int)) c) := sSet_ok c2
    have hl : ((SZ.ev p q r).take k).length ≤ 1000 := by rw [List.length_take]; omega
    have c3 := add1_ok (ρ := E7 (.parts n) cnt ((SZ.ev p q r).take k) L (.int (k : Int)) (.int (x : Int)) c) (fa := eV 2) (fb := eLst (aCons (eV 5) aNil)) (l := (SZ.ev p q r).take k) (x := x) rfl rfl hl
    rw [← hx, ev_take p q r k (by omega), hx] at c3
    have hs : L - x = q * (p - (k + 1)) + (r - (k + 1)) ∧ x ≤ L := by
      have e1 : q * (p - k) = q * (p - (k + 1)) + q := by rw [show p - k = p - (k + 1) + 1 by omega, Nat.mul_succ]
      by_cases z : k < r
      · rw [if_pos z] at hx; omega
      · rw [if_neg z] at hx; omega
    have c4 : eBin dSub (eV 3) (eV 5) (E7 (.parts n) cnt ((SZ.ev p q r).take k) L (.int (k : Int)) (.int (x : Int)) c) = .ok (.int ((q * (p - (k + 1)) + (r - (k + 1)) : Nat) : Int)) (E7 (.parts n) cnt ((SZ.ev p q r).take k) L (.int (k : Int)) (.int (x : Int)) c) := by
      rw [← hs.1]
      exact eBin_ok (a := .int (L : Int)) (b := .int (x : Int)) rfl rfl (dSub_nat hs.2)
    have e2 : lsP (E7 (.parts n) cnt ((SZ.ev p q r).take k) L (.int (k : Int)) .none c) = .nx (E7 (.parts n) cnt ((SZ.ev p q r).take (k + 1)) (q * (p - (k + 1)) + (r - (k + 1))) .none .none c) :=
      (sSeq_nx s0).trans ((sSeq_nx (par_ok (aCons_ok c3 (a1_ok c4)))).trans rfl)
    rw [List.range'_succ]
    exact (forGo_go (ρ1 := E7 (.parts n) cnt ((SZ.ev p q r).take k) L (.int (k : Int)) .none c) rfl e2).trans (lsP_loop hp hn8 hr c m (k + 1) (by omega))
theorem lsH_loop (k : Kd) (cnt : Nat) (c : PyData) : ∀ (f n fuel : Nat) (acc : List Nat), n < 2 ^ f → f < fuel → acc.length + f ≤ 1000 → sWhile lsC lsH fuel (E7 k cnt acc n .none .none c) = .nx (E7 k cnt (acc ++ SZ.hv f n) 0 .none .none c)
  | f, n, 0, _, _, h, _ => absurd h (Nat.not_lt_zero _)
  | 0, n, fuel + 1, acc, h, _, _ => by
    have : n = 0 := by simpa using h
    subst this
    rw [show SZ.hv 0 0 = [] from rfl, List.append_nil]
    exact sWhile_f rfl
  | f + 1, n, fuel + 1, acc, h, hf, hl => by
    have q : lsC (E7 k cnt acc n .none .none c) = .ok (decide (0 < n)) (E7 k cnt acc n .none .none c) := tB (b := .int ((0 : Nat) : Int)) rfl rfl (dGt_nat _ _)
    by_cases z : n = 0
    · subst z
      rw [show SZ.hv (f + 1) 0 = [] from rfl, List.append_nil]
      exact sWhile_f q
    · rw [decide_eq_true (by omega)] at q
      have ex : n - n / 2 = (n + 1) / 2 := by omega
      have c1 : eBin dSub (eV 3) (eBin dDiv (eV 3) (eK (.int 2))) (E7 k cnt acc n .none .none c) = .ok (.int (((n + 1) / 2 : Nat) : Int)) (E7 k cnt acc n .none .none c) := by
        rw [← ex]
        exact eBin_ok (a := .int (n : Int)) (b := .int ((n / 2 : Nat) : Int)) rfl (eBin_ok (a := .int (n : Int)) (b := .int ((2 : Nat) : Int)) rfl rfl (dDiv_nat (by decide) two_big)) (dSub_nat (by omega))
      have s0 : sSet 5 (eBin dSub (eV 3) (eBin dDiv (eV 3) (eK (.int 2)))) (E7 k cnt acc n .none .none c) = .nx (E7 k cnt acc n .none (.int (((n + 1) / 2 : Nat) : Int)) c) := sSet_ok c1
      have c3 := add1_ok (ρ := E7 k cnt acc n .none (.int (((n + 1) / 2 : Nat) : Int)) c) (fa := eV 2) (fb := eLst (aCons (eV 5) aNil)) (l := acc) (x := (n + 1) / 2) rfl rfl (by omega)
      have c4 : eBin dSub (eV 3) (eV 5) (E7 k cnt acc n .none (.int (((n + 1) / 2 : Nat) : Int)) c) = .ok (.int ((n / 2 : Nat) : Int)) (E7 k cnt acc n .none (.int (((n + 1) / 2 : Nat) : Int)) c) := by
        rw [show n / 2 = n - (n + 1) / 2 by omega]
        exact eBin_ok (a := .int (n : Int)) (b := .int (((n + 1) / 2 : Nat) : Int)) rfl rfl (dSub_nat (by omega))
      have e2 : lsH (E7 k cnt acc n .none .none c) = .nx (E7 k cnt (acc ++ [(n + 1) / 2]) (n / 2) .none .none c) :=
        (sSeq_nx s0).trans ((sSeq_nx (par_ok (aCons_ok c3 (a1_ok c4)))).trans rfl)
      rw [sWhile_t q e2, lsH_loop k cnt c f (n / 2) fuel (acc ++ [(n + 1) / 2]) (by rw [Nat.pow_succ] at h; omega) (by omega) (by rw [List.length_append, List.length_singleton]; omega), List.append_assoc]
      have : SZ.hv (f + 1) n = (n + 1) / 2 :: SZ.hv f (n / 2) := by
        conv => lhs; unfold SZ.hv
        rw [if_neg z]
      rw [this]
      rfl
theorem lsB_loop (k : Kd) (cnt : Nat) (a : PyData) : ∀ (ts : List Nat) (n : Nat) (acc : List Nat), (∀ t ∈ ts, 1 ≤ t) → acc.length + ts.length ≤ 1000 → ∃ z, forGo (gN 6) lsB (lN ts) (E7 k cnt acc n a .none .none) = .nx (E7 k cnt (acc ++ SZ.bs ts n) z a .none .none)
  | [], n, acc, _, _ => ⟨n, by rw [show SZ.bs [] n = [] from rfl, List.append_nil]; rfl⟩
  | t :: ts, n, acc, ht, h => by
    rw [List.length_cons] at h
    have h1 := ht t List.mem_cons_self
    have s0 : sSet 5 (eCB dMin (aCons (eV 6) (aCons (eV 3) aNil))) (E7 k cnt acc n a .none (.int (t : Int))) = .nx (E7 k cnt acc n a (.int ((min t n : Nat) : Int)) (.int (t : Int))) := by
      have q : eCB dMin (aCons (eV 6) (aCons (eV 3) aNil)) (E7 k cnt acc n a .none (.int (t : Int))) = .ok (.int ((min t n : Nat) : Int)) (E7 k cnt acc n a .none (.int (t : Int))) := eCB_ok (ds := [.int (t : Int), .int (n : Int)]) rfl (dMin_nat _ _)
      exact sSet_ok q
    have q : eTst asB (eBin dGt (eV 5) (eK (.int 0))) (E7 k cnt acc n a (.int ((min t n : Nat) : Int)) (.int (t : Int))) = .ok (decide (0 < min t n)) (E7 k cnt acc n a (.int ((min t n : Nat) : Int)) (.int (t : Int))) := tB (b := .int ((0 : Nat) : Int)) rfl rfl (dGt_nat _ _)
    have c4 : eBin dSub (eV 3) (eV 5) (E7 k cnt acc n a (.int ((min t n : Nat) : Int)) (.int (t : Int))) = .ok (.int ((n - min t n : Nat) : Int)) (E7 k cnt acc n a (.int ((min t n : Nat) : Int)) (.int (t : Int))) := eBin_ok (a := .int (n : Int)) (b := .int ((min t n : Nat) : Int)) rfl rfl (dSub_nat (by omega))
    by_cases z : n = 0
    · rw [decide_eq_false (by omega)] at q
      have c3 : eBin dAddL (eV 2) lsO (E7 k cnt acc n a (.int ((min t n : Nat) : Int)) (.int (t : Int))) = .ok (.list (lN acc)) (E7 k cnt acc n a (.int ((min t n : Nat) : Int)) (.int (t : Int))) := by
        refine eBin_ok (a := .list (lN acc)) (b := .list []) rfl (eIf_f q) ?_
        have u : dAddL (.list (lN acc)) (.list []) = if (lN acc).length + ([] : List PyData).length ≤ sizeLine then some (.list (lN acc ++ [])) else none := rfl
        rw [u, if_pos (by rw [lN_len, List.length_nil]; exact Nat.le_of_lt (sz_small (by omega))), List.append_nil]
      have e2 : lsB (E7 k cnt acc n a .none (.int (t : Int))) = .nx (E7 k cnt acc (n - min t n) a .none .none) := (sSeq_nx s0).trans ((sSeq_nx (par_ok (aCons_ok c3 (a1_ok c4)))).trans rfl)
      obtain ⟨y, hy⟩ := lsB_loop k cnt a ts (n - min t n) acc (fun t h => ht t (List.mem_cons_of_mem _ h)) (by omega)
      refine ⟨y, ?_⟩
      refine (forGo_go (ρ1 := E7 k cnt acc n a .none (.int (t : Int))) rfl e2).trans (hy.trans ?_)
      rw [z, Nat.zero_sub, SZ.bs_zero, SZ.bs_zero]
    · rw [decide_eq_true (by omega)] at q
      have c3 := add1_ok (ρ := E7 k cnt acc n a (.int ((min t n : Nat) : Int)) (.int (t : Int))) (fa := eV 2) (fb := lsO) (l := acc) (x := min t n) rfl ((eIf_t q).trans rfl) (by omega)
      have e2 : lsB (E7 k cnt acc n a .none (.int (t : Int))) = .nx (E7 k cnt (acc ++ [min t n]) (n - min t n) a .none .none) := (sSeq_nx s0).trans ((sSeq_nx (par_ok (aCons_ok c3 (a1_ok c4)))).trans rfl)
      obtain ⟨y, hy⟩ := lsB_loop k cnt a ts (n - min t n) (acc ++ [min t n]) (fun t h => ht t (List.mem_cons_of_mem _ h)) (by rw [List.length_append, List.length_singleton]; omega)
      refine ⟨y, ?_⟩
      refine (forGo_go (ρ1 := E7 k cnt acc n a .none (.int (t : Int))) rfl e2).trans (hy.trans ?_)
      have : SZ.bs (t :: ts) n = min t n :: SZ.bs ts (n - min t n) := by
        conv => lhs; unfold SZ.bs
        rw [if_neg z]
      rw [List.append_assoc, this]
      rfl
theorem law_sizes_ok {k : Kd} (hk : k.Ok) {cnt : Nat} (hc : cnt ≤ 10 ^ 30) {l : List Nat} (h : Sz k cnt l) : D_law_sizes [k.D, .int (cnt : Int)] = .ok (.list (lN l)) [k.D, .int (cnt : Int)] := by
  have b100 : 10 ^ 30 < 2 ^ 100 := by decide +kernel
  rw [ls_eq]
  have e0 : sPar 2 3 (aCons (eLst aNil) (aCons (eV 1) aNil)) ([k.D, .int (cnt : Int)] ++ List.replicate 5 .none) = .nx (E7 k cnt [] cnt .none .none .none) := rfl
  have qT := kT (ρ := E7 k cnt [] cnt .none .none .none) (k := k) rfl
  have qP := kP (ρ := E7 k cnt [] cnt .none .none .none) (k := k) rfl
  have qH := kH (ρ := E7 k cnt [] cnt .none .none .none) (k := k) rfl
  cases k with
  | heap n =>
    obtain ⟨h1, h2⟩ := hk
    rw [h]
    have c1 : eCall [none, none] (aCons (eBin dIx (eV 0) (eK (.int 1))) (aCons (eV 1) aNil)) D_law_below (E7 (.heap n) cnt [] cnt .none .none .none) = .ok (.list (lN ((SZ.hp n cnt 100 1 0).filter fun x => decide (0 < x)))) (E7 (.heap n) cnt [] cnt .none .none .none) := eCall_k (ρ1 := E7 (.heap n) cnt [] cnt .none .none .none) [.int (n : Int), .int (cnt : Int)] rfl (law_below_ok h1 h2 hc) rfl
    exact fnB_rt' (ρ' := E7 (.heap n) cnt [] cnt .none .none .none) ((sSeq_nx e0).trans (sSeq_rt ((sIf_t qT).trans (sRet_ok c1)))) rfl
  | parts n =>
    obtain ⟨h1, h2⟩ := hk
    by_cases z : cnt = 0
    · subst z
      rw [Sz.zero (k := .parts n) ⟨h1, h2⟩ h]
      have c1 : eCB dMin (aCons (eBin dIx (eV 0) (eK (.int 1))) (aCons (eV 1) aNil)) (E7 (.parts n) 0 [] 0 .none .none .none) = .ok (.int ((0 : Nat) : Int)) (E7 (.parts n) 0 [] 0 .none .none .none) := by
        refine eCB_ok (ds := [.int (n : Int), .int ((0 : Nat) : Int)]) rfl ?_
        rw [dMin_nat, Nat.min_zero]
      have e1 : sFor (aft1 rng1 (aCons (eCB dMin (aCons (eBin dIx (eV 0) (eK (.int 1))) (aCons (eV 1) aNil))) aNil)) (gN 4) lsP (E7 (.parts n) 0 [] 0 .none .none .none) = .nx (E7 (.parts n) 0 [] 0 .none .none .none) := (sFor_ok (rng_n c1 (by omega))).trans rfl
      exact fnB_rt' (ρ' := E7 (.parts n) 0 [] 0 .none .none .none) ((sSeq_nx e0).trans ((sSeq_nx (sIf_nil qT)).trans ((sSeq_nx ((sIf_t qP).trans e1)).trans rfl))) rfl
    · rw [h]
      have hp : 0 < min n cnt := by omega
      have hr := Nat.mod_lt cnt hp
      have ec : cnt / min n cnt * (min n cnt - 0) + (cnt % min n cnt - 0) = cnt := by
        rw [Nat.sub_zero, Nat.sub_zero, Nat.mul_comm]; exact Nat.div_add_mod _ _
      have lp := lsP_loop (n := n) (cnt := cnt) (p := min n cnt) (q := cnt / min n cnt) (r := cnt % min n cnt) rfl h2 hr .none (min n cnt) 0 (by omega)
      rw [ec] at lp
      have c1 : eCB dMin (aCons (eBin dIx (eV 0) (eK (.int 1))) (aCons (eV 1) aNil)) (E7 (.parts n) cnt [] cnt .none .none .none) = .ok (.int ((min n cnt : Nat) : Int)) (E7 (.parts n) cnt [] cnt .none .none .none) := eCB_ok (ds := [.int (n : Int), .int (cnt : Int)]) rfl (dMin_nat _ _)
      have e1 : sFor (aft1 rng1 (aCons (eCB dMin (aCons (eBin dIx (eV 0) (eK (.int 1))) (aCons (eV 1) aNil))) aNil)) (gN 4) lsP (E7 (.parts n) cnt [] cnt .none .none .none) = .nx (E7 (.parts n) cnt (SZ.ev (min n cnt) (cnt / min n cnt) (cnt % min n cnt)) 0 .none .none .none) := (sFor_ok (rng_n c1 (by omega))).trans lp
      exact fnB_rt' (ρ' := E7 (.parts n) cnt (SZ.ev (min n cnt) (cnt / min n cnt) (cnt % min n cnt)) 0 .none .none .none) ((sSeq_nx e0).trans ((sSeq_nx (sIf_nil qT)).trans ((sSeq_nx ((sIf_t qP).trans e1)).trans rfl))) rfl
  | half =>
    rw [h]
    have e1 := lsH_loop .half cnt .none 100 cnt 100000000 [] (by omega) (by omega) (by decide)
    rw [List.nil_append] at e1
    exact fnB_rt' (ρ' := E7 .half cnt (SZ.hv 100 cnt) 0 .none .none .none) ((sSeq_nx e0).trans ((sSeq_nx (sIf_nil qT)).trans ((sSeq_nx ((sIf_f qP).trans ((sIf_t qH).trans e1))).trans rfl))) rfl
  | best n =>
    obtain ⟨m, hm, e⟩ := h
    have h1 := hm.le (c := some n) (fun k e => by cases e; exact hk.1) (by omega)
    rw [e]
    have c1 : eCall [none, none] (aCons (eBin dIx (eV 0) (eK (.int 1))) (aCons (eBin dAdd (eV 1) (eK (.int 1))) aNil)) D_law_most_row (E7 (.best n) cnt [] cnt .none .none .none) = .ok (.list (lN (SZ.row (some n) m))) (E7 (.best n) cnt [] cnt .none .none .none) := eCall_k (ρ1 := E7 (.best n) cnt [] cnt .none .none .none) [cD (some n), .int ((cnt + 1 : Nat) : Int)] rfl (by
      rw [mr_eq]
      exact ticks_for_ok (by omega) hm) rfl
    obtain ⟨z, hz⟩ := lsB_loop (.best n) cnt .none (SZ.bl (some n) m) cnt [] SZ.bl_pos (by rw [SZ.bl_len, List.length_nil]; omega)
    rw [List.nil_append] at hz
    have e1 : sFor lsR (gN 6) lsB (E7 (.best n) cnt [] cnt .none .none .none) = .nx (E7 (.best n) cnt (SZ.bs (SZ.bl (some n) m) cnt) z .none .none .none) := (sFor_ok (bl_ok c1)).trans hz
    exact fnB_rt' (ρ' := E7 (.best n) cnt (SZ.bs (SZ.bl (some n) m) cnt) z .none .none .none) ((sSeq_nx e0).trans ((sSeq_nx (sIf_nil qT)).trans ((sSeq_nx ((sIf_f qP).trans ((sIf_f qH).trans e1))).trans rfl))) rfl
end GL

namespace GL
open PySem PySem.Spec PyProof.Rows G SP
open L2 hiding St Inv Binds
def t0 : MS := (sSet 1 (eCall [none] (aCons (eV 0) aNil) D_law_begun))
def t1_0 : MS := (sIf (bOr (bNot (eTst asB (eCall [some 1, none] (aIo (aCons (eCall [some 1] (aIo aNil) D_law_kind) aNil)) D_law_right))) (bNot (eTst asB (eCall [some 1, none] (aIo (aCons (eBin dAdd (eK (.int 2)) (eCall [some 1, none] (aIo (aCons (eK (.int 7)) aNil)) D_law_next)) aNil)) D_law_most_right)))) (sRet (eK (.bool false))) sNil)
def t1_1 : MS := (sClr [2] sNil)
def t1B : MS := (sSeq t1_0 t1_1)
def t1G : TD := (gN 2)
def t1I : MI := (aft1 rng1 (aCons (eBin dAdd (eK (.int 2)) (eCB dMin (aCons (eCB dLen (aCons (eV 0) aNil)) (aCons (eK (.int 6)) aNil)))) aNil))
def t1 : MS := sFor t1I t1G t1B
def t2_0 : MS := (sIf (bNot (eTst asB (eCall [some 1, none] (aIo (aCons (eV 3) aNil)) D_law_right))) (sRet (eK (.bool false))) sNil)
def t2_1 : MS := (sClr [3] sNil)
def t2B : MS := (sSeq t2_0 t2_1)
def t2G : TD := (gN 3)
def t2I : MI := (iV (eLst (aCons (eTup (aCons (eK (.str "half")) aNil)) (aCons (eTup (aCons (eK (.str "parts")) (aCons (eK (.int 2)) aNil))) (aCons (eTup (aCons (eK (.str "parts")) (aCons (eK (.int 8)) aNil))) (aCons (eTup (aCons (eK (.str "best")) (aCons (eK (.int 2)) aNil))) (aCons (eTup (aCons (eK (.str "best")) (aCons (eK (.int 8)) aNil))) (aCons (eTup (aCons (eK (.str "heap")) (aCons (eK (.int 2)) aNil))) (aCons (eTup (aCons (eK (.str "heap")) (aCons (eK (.int 8)) aNil))) aNil)))))))))
def t2 : MS := sFor t2I t2G t2B
def t3 : MS := (sIf (bOr (bNot (eTst asB (eCall [some 1, none] (aIo (aCons (eK .none) aNil)) D_law_most_right))) (bOr (eTst asB (eBin dNe (eCall [none, none] (aCons (eTup (aCons (eK (.str "half")) aNil)) (aCons (eK (.int 7)) aNil)) D_sizes) (eTup (aCons (eK (.int 4)) (aCons (eK (.int 2)) (aCons (eK (.int 1)) aNil)))))) (eTst asB (eBin dNe (eCall [none, none] (aCons (eTup (aCons (eK (.str "best")) (aCons (eK (.int 2)) aNil))) (aCons (eK (.int 6)) aNil)) D_sizes) (eTup (aCons (eK (.int 4)) (aCons (eK (.int 2)) aNil))))))) (sRet (eK (.bool false))) sNil)
def t4 : MS := (sRet (eAnd (eCall [none, none] (aCons (eK (.int 10)) (aCons (eTup aNil) aNil)) D_is_lot) (eAnd (eCall [none, none] (aCons (eK (.int 10)) (aCons (eTup (aCons (eK (.int 1)) (aCons (eK (.int 9)) aNil))) aNil)) D_is_lot) (eAnd (eNot (eCall [none, none] (aCons (eK (.int 10)) (aCons (eTup (aCons (eK (.int 10)) aNil)) aNil)) D_is_lot)) (eNot (eCall [none, none] (aCons (eK (.int 10)) (aCons (eTup (aCons (eK (.int 0)) aNil)) aNil)) D_is_lot))))))
theorem law_eq : D_law = fnB [false] 3 false (sSeq t0 (sSeq t1 (sSeq t2 (sSeq t3 t4)))) := rfl
def r0 : MS := (sIf (eTst asB (eBin dNe (eCall [none] (aCons (eV 1) aNil) D_need_kind) (eV 1))) (sRet (eK (.bool false))) sNil)
def r1 : MS := (sSet 2 (eLst (aCons (eCall [some 0, none] (aIo (aCons (eK (.int 80)) aNil)) D_law_next) (aCons (eCall [some 0, none] (aIo (aCons (eBin dPow (eK (.int 10)) (eK (.int 6))) aNil)) D_law_next) (aCons (eBin dSub (eBin dPow (eK (.int 10)) (eK (.int 30))) (eCall [some 0, none] (aIo (aCons (eBin dPow (eK (.int 10)) (eK (.int 9))) aNil)) D_law_next)) (aCons (eCall [some 0, none] (aIo (aCons (eBin dPow (eK (.int 10)) (eK (.int 30))) aNil)) D_law_next) aNil))))))
def r2_0 : MS := (sSet 4 (eCall [none, none] (aCons (eV 1) (aCons (eV 3) aNil)) D_law_sizes))
def r2_1 : MS := (sIf (bOr (eTst asB (eBin dNe (eCB dRepr (aCons (eCall [none, none] (aCons (eV 1) (aCons (eV 3) aNil)) D_sizes) aNil)) (eCB dRepr (aCons (eCB dTup (aCons (eV 4) aNil)) aNil)))) (eTst asB (eBin dNe (eCB dSum (aCons (eV 4) aNil)) (eV 3)))) (sRet (eK (.bool false))) sNil)
def r2_2 : MS := (sClr [3, 4] sNil)
def r2B : MS := (sSeq r2_0 (sSeq r2_1 r2_2))
def r2G : TD := (gN 3)
def r2I : MI := (iV (eBin dAddL (eV 2) (eLst (aCons (eK (.int 0)) (aCons (eK (.int 1)) (aCons (eK (.int 2)) (aCons (eIf (eTst asB (eBin dGt (eCB dLen (aCons (eV 1) aNil)) (eK (.int 1)))) (eBin dIx (eV 1) (eNeg (eK (.int 1)))) (eK (.int 3))) aNil)))))))
def r2 : MS := sFor r2I r2G r2B
def r3 : MS := (sRet (eK (.bool true)))
theorem law_right_eq : D_law_right = fnB [true, false] 3 false (sSeq r0 (sSeq r1 (sSeq r2 r3))) := rfl
def q0 : MS := (sSet 2 (eCall [none, none] (aCons (eV 1) (aCons (eBin dPow (eK (.int 10)) (eK (.int 30))) aNil)) D_law_most_row))
def q1 : MS := (sSet 3 (eCall [some 0, none] (aIo (aCons (eCB dLen (aCons (eV 2) aNil)) aNil)) D_law_next))
def q2 : MS := (sIf (eTst asB (eBin dNe (eCB dRepr (aCons (eCall [none, none] (aCons (eV 1) (aCons (eV 3) aNil)) D_most_told) aNil)) (eCB dRepr (aCons (eBin dIx (eV 2) (eV 3)) aNil)))) (sRet (eK (.bool false))) sNil)
def q3 : MS := (sSet 4 (eLst (aCons (eK (.int 1)) aNil)))
def q4 : MS := (sWhile (eTst asB (eBin dLt (eCB dLen (aCons (eV 4) aNil)) (eK (.int 201)))) (sDrop (eAppend 4 (eBin dAdd (eK (.int 1)) (eCB dSum (aCons (eIf (eTst asB (eBin dIsN (eV 1) (eK .none))) (eV 4) (eSl dSlL (eV 4) (oSome (eCB dMax (aCons (eK (.int 0)) (aCons (eBin dSub (eCB dLen (aCons (eV 4) aNil)) (eV 1)) aNil)))) oNone)) aNil))))) 100000000)
def q5 : MS := (sRet (eAnd (eBin dEq (eCall [none, none] (aCons (eV 1) (aCons (eK (.int 200)) aNil)) D_most_told) (eBin dIx (eV 4) (eK (.int 200)))) (eBin dEq (eCall [none, none] (aCons (eV 1) (aCons (eK (.int 151)) aNil)) D_most_told) (eBin dIx (eV 4) (eK (.int 151))))))
theorem law_most_right_eq : D_law_most_right = fnB [true, false] 3 false (sSeq q0 (sSeq q1 (sSeq q2 (sSeq q3 (sSeq q4 q5))))) := rfl
def k0 : MS := (sSet 1 (eBin dIx (eLst (aCons (eK (.str "parts")) (aCons (eK (.str "half")) (aCons (eK (.str "best")) (aCons (eK (.str "heap")) aNil))))) (eCall [some 0, none] (aIo (aCons (eK (.int 4)) aNil)) D_law_next)))
def k1 : MS := (sRet (eIf (eTst asB (eBin dEq (eV 1) (eK (.str "half")))) (eTup (aCons (eV 1) aNil)) (eTup (aCons (eV 1) (aCons (eBin dAdd (eK (.int 2)) (eCall [some 0, none] (aIo (aCons (eBin dIx (eLst (aCons (eK (.int 2)) (aCons (eK (.int 7)) aNil))) (eCall [some 0, none] (aIo (aCons (eK (.int 2)) aNil)) D_law_next)) aNil)) D_law_next)) aNil)))))
theorem law_kind_eq : D_law_kind = fnB [true] 1 false (sSeq k0 k1) := rfl
theorem next_eq : D_law_next = DNz 100000000 3 2147483629 2147483647 7919 19 48271 104729 69621 2147483587 11 := rfl
theorem begun_eq : D_law_begun = DBz := rfl
theorem next_N : NextOk D_law_next := by
  rw [next_eq]
  exact nextz_of (by decide) (by decide) (by decide) (by decide) (by decide) (by decide) (by decide) (by decide) (by decide) (by decide)
theorem call1 {D fa : M PyData} {x m0 m m' d res : PyData} {r : Ev} (hf : fa (x :: m0 :: r) = .ok d (x :: m :: r)) (hD : D [m, d] = .ok res [m', d]) : eCall [some 1, none] (aIo (aCons fa aNil)) D (x :: m0 :: r) = .ok res (x :: m' :: r) :=
  eCall_k [.none, d] (ρ1 := x :: m :: r) (es := [m', d]) (aIo_ok (a1_ok hf)) hD rfl
theorem sm_lt {t : Int} (h : t ≤ 1000000) : t < 2 ^ 1000 := lt_1000 (by omega)
/-! ### a drawn kind -/
theorem law_kind_ok {b : Nat} {m : PyData} (hm : MOk b m) (hb : b + 10 < 2 ^ 90) : ∃ k m', D_law_kind [m] = .ok (Kd.D k) [m'] ∧ k.Ok ∧ MOk (b + 3) m' := by
  obtain ⟨v, m1, e1, v0, v1, hm1⟩ := nxt0 next_N (m0 := m) (r := [.none]) (fa := eK (.int 4)) hm (by omega) (by decide) (sm_lt (by decide)) rfl
  have num : ∀ w : PySem.Str, ∃ n m2, eTup (aCons (eV 1) (aCons (eBin dAdd (eK (.int 2)) (eCall [some 0, none] (aIo (aCons (eBin dIx (eLst (aCons (eK (.int 2)) (aCons (eK (.int 7)) aNil))) (eCall [some 0, none] (aIo (aCons (eK (.int 2)) aNil)) D_law_next)) aNil)) D_law_next)) aNil)) [m1, .str w] = .ok (.tuple [.str w, .int ((n : Nat) : Int)]) [m2, .str w] ∧ 2 ≤ n ∧ n ≤ 8 ∧ MOk (b + 3) m2 := by
    intro w
    obtain ⟨u, m2, e2, u0, u1, hm2⟩ := nxt0 next_N (m0 := m1) (r := [.str w]) (fa := eK (.int 2)) hm1 (by omega) (by decide) (sm_lt (by decide)) rfl
    obtain ⟨t, et, t0, t1⟩ : ∃ t : Int, eBin dIx (eLst (aCons (eK (.int 2)) (aCons (eK (.int 7)) aNil))) (eCall [some 0, none] (aIo (aCons (eK (.int 2)) aNil)) D_law_next) [m1, .str w] = .ok (.int t) [m2, .str w] ∧ 0 < t ∧ t ≤ 7 := by
      have : u = 0 ∨ u = 1 := by omega
      rcases this with rfl | rfl
      · exact ⟨2, eBin_ok rfl e2 rfl, by decide, by decide⟩
      · exact ⟨7, eBin_ok rfl e2 rfl, by decide, by decide⟩
    obtain ⟨z, m3, e3, z0, z1, hm3⟩ := nxt0 next_N (m0 := m1) (r := [.str w]) hm2 (by omega) t0 (sm_lt (by omega)) et
    obtain ⟨n, hn⟩ : ∃ n : Nat, 2 + z = (n : Int) := ⟨(2 + z).toNat, by omega⟩
    refine ⟨n, m3, ?_, by omega, by omega, hm3⟩
    rw [← hn]
    exact eTup_ok (aCons_ok rfl (a1_ok (eBin_ok (a := .int 2) (b := .int z) rfl e3 rfl))) (by show 2 ≤ 1000; decide)
  have fin : ∀ (w : PySem.Str) (k : Kd) (m2 : PyData), k0 [m, .none] = .nx [m1, .str w] → k1 [m1, .str w] = .rt k.D [m2, .str w] → D_law_kind [m] = .ok k.D [m2] := by
    intro w k m2 h1 h2
    rw [law_kind_eq]
    exact fnB_rt' (ρ' := [m2, .str w]) ((sSeq_nx h1).trans h2) rfl
  have : v = 0 ∨ v = 1 ∨ v = 2 ∨ v = 3 := by omega
  rcases this with rfl | rfl | rfl | rfl
  · obtain ⟨n, m2, e2, n0, n1, hm2⟩ := num "parts"
    have q : eTst asB (eBin dEq (eV 1) (eK (.str "half"))) [m1, .str "parts"] = .ok false [m1, .str "parts"] := tB rfl rfl (by kernel_rfl)
    have c0 : eBin dIx (eLst (aCons (eK (.str "parts")) (aCons (eK (.str "half")) (aCons (eK (.str "best")) (aCons (eK (.str "heap")) aNil))))) (eCall [some 0, none] (aIo (aCons (eK (.int 4)) aNil)) D_law_next) [m, .none] = .ok (.str "parts") [m1, .none] := eBin_ok rfl e1 rfl
    exact ⟨.parts n, m2, fin "parts" (.parts n) m2 (sSet_ok c0) (sRet_ok ((eIf_f q).trans e2)), ⟨n0, n1⟩, hm2⟩
  · have q : eTst asB (eBin dEq (eV 1) (eK (.str "half"))) [m1, .str "half"] = .ok true [m1, .str "half"] := tB rfl rfl (by kernel_rfl)
    have c0 : eBin dIx (eLst (aCons (eK (.str "parts")) (aCons (eK (.str "half")) (aCons (eK (.str "best")) (aCons (eK (.str "heap")) aNil))))) (eCall [some 0, none] (aIo (aCons (eK (.int 4)) aNil)) D_law_next) [m, .none] = .ok (.str "half") [m1, .none] := eBin_ok rfl e1 rfl
    exact ⟨.half, m1, fin "half" .half m1 (sSet_ok c0) (sRet_ok ((eIf_t q).trans rfl)), trivial, hm1.up (by omega)⟩
  · obtain ⟨n, m2, e2, n0, n1, hm2⟩ := num "best"
    have q : eTst asB (eBin dEq (eV 1) (eK (.str "half"))) [m1, .str "best"] = .ok false [m1, .str "best"] := tB rfl rfl (by kernel_rfl)
    have c0 : eBin dIx (eLst (aCons (eK (.str "parts")) (aCons (eK (.str "half")) (aCons (eK (.str "best")) (aCons (eK (.str "heap")) aNil))))) (eCall [some 0, none] (aIo (aCons (eK (.int 4)) aNil)) D_law_next) [m, .none] = .ok (.str "best") [m1, .none] := eBin_ok rfl e1 rfl
    exact ⟨.best n, m2, fin "best" (.best n) m2 (sSet_ok c0) (sRet_ok ((eIf_f q).trans e2)), ⟨n0, n1⟩, hm2⟩
  · obtain ⟨n, m2, e2, n0, n1, hm2⟩ := num "heap"
    have q : eTst asB (eBin dEq (eV 1) (eK (.str "half"))) [m1, .str "heap"] = .ok false [m1, .str "heap"] := tB rfl rfl (by kernel_rfl)
    have c0 : eBin dIx (eLst (aCons (eK (.str "parts")) (aCons (eK (.str "half")) (aCons (eK (.str "best")) (aCons (eK (.str "heap")) aNil))))) (eCall [some 0, none] (aIo (aCons (eK (.int 4)) aNil)) D_law_next) [m, .none] = .ok (.str "heap") [m1, .none] := eBin_ok rfl e1 rfl
    exact ⟨.heap n, m2, fin "heap" (.heap n) m2 (sSet_ok c0) (sRet_ok ((eIf_f q).trans e2)), ⟨n0, n1⟩, hm2⟩
/-! ### the parts of a kind -/
theorem sz_sml {k : Kd} (hk : k.Ok) {cnt : Nat} (hc : cnt ≤ 10 ^ 30) {l : List Nat} (h : Sz k cnt l) : okR (.tuple (lN l)) = true := by
  have e30 : 10 ^ 30 < 10 ^ 100 := by decide +kernel
  refine okR_tup (fun d hd => ?_) (by rw [lN_len]; have := Sz.len hk hc h; omega)
  obtain ⟨x, hx, rfl⟩ := List.mem_map.mp hd
  have h1 := SZ.mem_sum hx
  rw [Sz.sum hk hc h] at h1
  exact nat_sml (by omega)
theorem r2_loop {k : Kd} (hk : k.Ok) (m C : PyData) : ∀ ds : List Nat, (∀ c ∈ ds, c ≤ 10 ^ 30) → forGo r2G r2B (lN ds) [m, k.D, C, .none, .none] = .nx [m, k.D, C, .none, .none]
  | [], _ => rfl
  | c :: ds, h => by
    have hc := h c List.mem_cons_self
    obtain ⟨l, hl⟩ := Sz.ex hk hc
    have c1 : eCall [none, none] (aCons (eV 1) (aCons (eV 3) aNil)) D_law_sizes [m, k.D, C, .int (c : Int), .none] = .ok (.list (lN l)) [m, k.D, C, .int (c : Int), .none] := eCall_k (ρ1 := [m, k.D, C, .int (c : Int), .none]) [k.D, .int (c : Int)] rfl (law_sizes_ok hk hc hl) rfl
    have s0 : r2_0 [m, k.D, C, .int (c : Int), .none] = .nx [m, k.D, C, .int (c : Int), .list (lN l)] := sSet_ok c1
    have c2 : eCall [none, none] (aCons (eV 1) (aCons (eV 3) aNil)) D_sizes [m, k.D, C, .int (c : Int), .list (lN l)] = .ok (.tuple (lN l)) [m, k.D, C, .int (c : Int), .list (lN l)] := eCall_k (ρ1 := [m, k.D, C, .int (c : Int), .list (lN l)]) [k.D, .int (c : Int)] rfl (sizes_ok hk hc hl) rfl
    have c3 : eCB dTup (aCons (eV 4) aNil) [m, k.D, C, .int (c : Int), .list (lN l)] = .ok (.tuple (lN l)) [m, k.D, C, .int (c : Int), .list (lN l)] := rfl
    have c4 : eCB dSum (aCons (eV 4) aNil) [m, k.D, C, .int (c : Int), .list (lN l)] = .ok (.int (c : Int)) [m, k.D, C, .int (c : Int), .list (lN l)] := by
      refine eCB_ok (ds := [.list (lN l)]) rfl ?_
      rw [dSum_nat, Sz.sum hk hc hl]
    have s1 : r2_1 [m, k.D, C, .int (c : Int), .list (lN l)] = .nx [m, k.D, C, .int (c : Int), .list (lN l)] :=
      sIf_nil ((bOr_ff (repr_same c2 c3 (sz_sml hk hc hl))).trans (tB (g := dNe) c4 rfl (dNe_same _)))
    have e2 : r2B [m, k.D, C, .int (c : Int), .none] = .nx [m, k.D, C, .none, .none] := (sSeq_nx s0).trans ((sSeq_nx s1).trans rfl)
    exact (forGo_go (ρ1 := [m, k.D, C, .int (c : Int), .none]) rfl e2).trans (r2_loop hk m C ds fun c h' => h c (List.mem_cons_of_mem _ h'))
def Kd.last : Kd → Nat
  | .parts n => n | .half => 3 | .best n => n | .heap n => n
theorem last_ok (k : Kd) (m C a b : PyData) : eIf (eTst asB (eBin dGt (eCB dLen (aCons (eV 1) aNil)) (eK (.int 1)))) (eBin dIx (eV 1) (eNeg (eK (.int 1)))) (eK (.int 3)) [m, k.D, C, a, b] = .ok (.int (k.last : Int)) [m, k.D, C, a, b] := by
  cases k <;> rfl
theorem law_right_ok {k : Kd} (hk : k.Ok) {b : Nat} {m : PyData} (hm : MOk b m) (hb : b + 10 < 2 ^ 90) : ∃ m', D_law_right [m, k.D] = .ok (.bool true) [m', k.D] ∧ MOk (b + 4) m' := by
  have e30 : ((10 ^ 30 : Nat) : Int) = 1000000000000000000000000000000 := by decide +kernel
  have p6 : dPow (.int 10) (.int 6) = some (.int 1000000) := by kernel_rfl
  have p9 : dPow (.int 10) (.int 9) = some (.int 1000000000) := by kernel_rfl
  have p30 : dPow (.int 10) (.int 30) = some (.int 1000000000000000000000000000000) := by kernel_rfl
  obtain ⟨v1, m1, d1, a1, b1, hm1⟩ := nxt0 next_N (m0 := m) (r := [k.D, .none, .none, .none]) (fa := eK (.int 80)) hm (by omega) (by decide) (sm_lt (by decide)) rfl
  obtain ⟨v2, m2, d2, a2, b2, hm2⟩ := nxt0 next_N (m0 := m1) (r := [k.D, .none, .none, .none]) (fa := eBin dPow (eK (.int 10)) (eK (.int 6))) hm1 (by omega) (by decide) (sm_lt (by decide)) (eBin_ok (a := .int 10) (b := .int 6) rfl rfl p6)
  obtain ⟨v3, m3, d3, a3, b3, hm3⟩ := nxt0 next_N (m0 := m2) (r := [k.D, .none, .none, .none]) (fa := eBin dPow (eK (.int 10)) (eK (.int 9))) hm2 (by omega) (by decide) (lt_1000 (by decide)) (eBin_ok (a := .int 10) (b := .int 9) rfl rfl p9)
  obtain ⟨v4, m4, d4, a4, b4, hm4⟩ := nxt0 next_N (m0 := m3) (r := [k.D, .none, .none, .none]) (fa := eBin dPow (eK (.int 10)) (eK (.int 30))) hm3 (by omega) (by decide) (lt_1000 (by decide)) (eBin_ok (a := .int 10) (b := .int 30) rfl rfl p30)
  obtain ⟨n1, h1⟩ : ∃ n : Nat, v1 = (n : Int) := ⟨v1.toNat, by omega⟩
  obtain ⟨n2, h2⟩ : ∃ n : Nat, v2 = (n : Int) := ⟨v2.toNat, by omega⟩
  obtain ⟨n3, h3⟩ : ∃ n : Nat, (1000000000000000000000000000000 : Int) - v3 = (n : Int) := ⟨((1000000000000000000000000000000 : Int) - v3).toNat, by omega⟩
  obtain ⟨n4, h4⟩ : ∃ n : Nat, v4 = (n : Int) := ⟨v4.toNat, by omega⟩
  subst h1; subst h2; subst h4
  have q0 : eTst asB (eBin dNe (eCall [none] (aCons (eV 1) aNil) D_need_kind) (eV 1)) ([m, k.D] ++ List.replicate 3 .none) = .ok false [m, k.D, .none, .none, .none] := by
    have c1 : eCall [none] (aCons (eV 1) aNil) D_need_kind [m, k.D, .none, .none, .none] = .ok k.D [m, k.D, .none, .none, .none] := eCall_k (ρ1 := [m, k.D, .none, .none, .none]) [k.D] rfl (need_kind_ok hk) rfl
    refine tB (b := k.D) c1 rfl ?_
    cases k <;> exact dNe_tup (fun d hd => by
      simp only [List.mem_cons, List.not_mem_nil, or_false] at hd
      rcases hd with rfl | rfl <;> rfl)
  have s0 : r0 ([m, k.D] ++ List.replicate 3 .none) = .nx [m, k.D, .none, .none, .none] := sIf_nil q0
  have c1 : eLst (aCons (eCall [some 0, none] (aIo (aCons (eK (.int 80)) aNil)) D_law_next) (aCons (eCall [some 0, none] (aIo (aCons (eBin dPow (eK (.int 10)) (eK (.int 6))) aNil)) D_law_next) (aCons (eBin dSub (eBin dPow (eK (.int 10)) (eK (.int 30))) (eCall [some 0, none] (aIo (aCons (eBin dPow (eK (.int 10)) (eK (.int 9))) aNil)) D_law_next)) (aCons (eCall [some 0, none] (aIo (aCons (eBin dPow (eK (.int 10)) (eK (.int 30))) aNil)) D_law_next) aNil)))) [m, k.D, .none, .none, .none] = .ok (.list (lN [n1, n2, n3, n4])) [m4, k.D, .none, .none, .none] := by
    have x3 : eBin dSub (eBin dPow (eK (.int 10)) (eK (.int 30))) (eCall [some 0, none] (aIo (aCons (eBin dPow (eK (.int 10)) (eK (.int 9))) aNil)) D_law_next) [m2, k.D, .none, .none, .none] = .ok (.int (n3 : Int)) [m3, k.D, .none, .none, .none] := by
      rw [← h3]
      exact eBin_ok (eBin_ok (a := .int 10) (b := .int 30) rfl rfl p30) d3 rfl
    exact eLst_ok (aCons_ok d1 (aCons_ok d2 (aCons_ok x3 (a1_ok d4)))) (by show 4 ≤ 1000; decide)
  have s1 : r1 [m, k.D, .none, .none, .none] = .nx [m4, k.D, .list (lN [n1, n2, n3, n4]), .none, .none] := sSet_ok c1
  have c2 : eBin dAddL (eV 2) (eLst (aCons (eK (.int 0)) (aCons (eK (.int 1)) (aCons (eK (.int 2)) (aCons (eIf (eTst asB (eBin dGt (eCB dLen (aCons (eV 1) aNil)) (eK (.int 1)))) (eBin dIx (eV 1) (eNeg (eK (.int 1)))) (eK (.int 3))) aNil))))) [m4, k.D, .list (lN [n1, n2, n3, n4]), .none, .none] = .ok (.list (lN [n1, n2, n3, n4, 0, 1, 2, k.last])) [m4, k.D, .list (lN [n1, n2, n3, n4]), .none, .none] := by
    refine eBin_ok (b := .list (lN [0, 1, 2, k.last])) rfl (eLst_ok (aCons_ok rfl (aCons_ok rfl (aCons_ok rfl (a1_ok (last_ok k _ _ _ _))))) (by show 4 ≤ 1000; decide)) ?_
    have u : dAddL (.list (lN [n1, n2, n3, n4])) (.list (lN [0, 1, 2, k.last])) = if (lN [n1, n2, n3, n4]).length + (lN [0, 1, 2, k.last]).length ≤ sizeLine then some (.list (lN [n1, n2, n3, n4] ++ lN [0, 1, 2, k.last])) else none := rfl
    rw [u, if_pos (by rw [lN_len, lN_len]; exact Nat.le_of_lt (sz_small (by show 8 ≤ _; decide)))]
    rfl
  have kl : k.last ≤ 8 := by
    cases k with
    | half => decide
    | parts n => exact hk.2
    | best n => exact hk.2
    | heap n => exact hk.2
  have s2 : r2 [m4, k.D, .list (lN [n1, n2, n3, n4]), .none, .none] = .nx [m4, k.D, .list (lN [n1, n2, n3, n4]), .none, .none] := by
    refine (sFor_ok (iV_list c2)).trans (r2_loop hk _ _ _ ?_)
    intro c hc
    have z30 : (8 : Nat) ≤ 10 ^ 30 := by decide +kernel
    simp only [List.mem_cons, List.not_mem_nil, or_false] at hc
    rcases hc with rfl | rfl | rfl | rfl | rfl | rfl | rfl | rfl <;> omega
  refine ⟨m4, ?_, hm4⟩
  rw [law_right_eq]
  exact fnB_rt' (ρ' := [m4, k.D, .list (lN [n1, n2, n3, n4]), .none, .none]) ((sSeq_nx s0).trans ((sSeq_nx s1).trans ((sSeq_nx s2).trans rfl))) rfl
/-! ### how many at most -/
def lgC : M Bool := eTst asB (eBin dLt (eCB dLen (aCons (eV 4) aNil)) (eK (.int 201)))
def lgB : MS := sDrop (eAppend 4 (rwE 1 4 (eCB dLen (aCons (eV 4) aNil))))
theorem lg_eq : q4 = sWhile lgC lgB 100000000 := rfl
theorem lg_loop (c : Option Nat) (m R t : PyData) : ∀ (d n fuel : Nat), n + d = 200 → d < fuel → sWhile lgC lgB fuel [m, cD c, R, t, .list (lN (SZ.row c n))] = .nx [m, cD c, R, t, .list (lN (SZ.row c 200))]
  | d, n, 0, _, h => absurd h (Nat.not_lt_zero _)
  | 0, n, fuel + 1, h, _ => by
    have q : lgC [m, cD c, R, t, .list (lN (SZ.row c n))] = .ok (decide (n + 1 < 201)) [m, cD c, R, t, .list (lN (SZ.row c n))] := tB (b := .int ((201 : Nat) : Int)) (len_row rfl) rfl (dLt_nat _ _)
    have : n = 200 := by omega
    subst this
    exact sWhile_f q
  | d + 1, n, fuel + 1, h, hf => by
    have q : lgC [m, cD c, R, t, .list (lN (SZ.row c n))] = .ok (decide (n + 1 < 201)) [m, cD c, R, t, .list (lN (SZ.row c n))] := tB (b := .int ((201 : Nat) : Int)) (len_row rfl) rfl (dLt_nat _ _)
    rw [decide_eq_true (by omega)] at q
    have e1 := rwE_ok (ρ := [m, cD c, R, t, .list (lN (SZ.row c n))]) (c := c) (n := n) (ic := 1) (ir := 4) (fl := eCB dLen (aCons (eV 4) aNil)) rfl rfl (len_row rfl)
    have e2 : lgB [m, cD c, R, t, .list (lN (SZ.row c n))] = .nx [m, cD c, R, t, .list (lN (SZ.row c (n + 1)))] := by
      refine (sDrop_ok (appd_ok (ds := lN (SZ.row c n)) e1 rfl (sz_small (by rw [lN_len, SZ.row_len]; omega)))).trans ?_
      rw [row_put]
      rfl
    rw [sWhile_t q e2]
    exact lg_loop c m R t d (n + 1) fuel (by omega) (by omega)
theorem law_most_right_ok {c : Option Nat} (hc : CC c) {b : Nat} {m : PyData} (hm : MOk b m) (hb : b + 10 < 2 ^ 90) : ∃ m', D_law_most_right [m, cD c] = .ok (.bool true) [m', cD c] ∧ MOk (b + 1) m' := by
  have e30 : ((10 ^ 30 : Nat) : Int) = 1000000000000000000000000000000 := by decide +kernel
  have p30 : dPow (.int 10) (.int 30) = some (.int ((10 ^ 30 : Nat) : Int)) := by kernel_rfl
  obtain ⟨n, hn⟩ := SZ.fst_ex hc.ok (t := 10 ^ 30) (by omega)
  have n198 := hn.le hc.ok (by omega)
  have c0 : eCall [none, none] (aCons (eV 1) (aCons (eBin dPow (eK (.int 10)) (eK (.int 30))) aNil)) D_law_most_row [m, cD c, .none, .none, .none] = .ok (.list (lN (SZ.row c n))) [m, cD c, .none, .none, .none] :=
    eCall_k (ρ1 := [m, cD c, .none, .none, .none]) [cD c, .int ((10 ^ 30 : Nat) : Int)] (aCons_ok rfl (a1_ok (eBin_ok (a := .int 10) (b := .int 30) rfl rfl p30))) (by
      rw [mr_eq]
      exact ticks_for_ok (by omega) hn) rfl
  have s0 : q0 ([m, cD c] ++ List.replicate 3 .none) = .nx [m, cD c, .list (lN (SZ.row c n)), .none, .none] := sSet_ok c0
  obtain ⟨v, m1, d1, v0, v1, hm1⟩ := nxt0 next_N (m0 := m) (r := [cD c, .list (lN (SZ.row c n)), .none, .none]) (fa := eCB dLen (aCons (eV 2) aNil)) (t := ((n + 1 : Nat) : Int)) hm (by omega) (by omega) (sm_lt (by omega)) (len_row rfl)
  obtain ⟨t, ht⟩ : ∃ t : Nat, v = (t : Int) := ⟨v.toNat, by omega⟩
  subst ht
  have s1 : q1 [m, cD c, .list (lN (SZ.row c n)), .none, .none] = .nx [m1, cD c, .list (lN (SZ.row c n)), .int (t : Int), .none] := sSet_ok d1
  have c2 : eCall [none, none] (aCons (eV 1) (aCons (eV 3) aNil)) D_most_told [m1, cD c, .list (lN (SZ.row c n)), .int (t : Int), .none] = .ok (.int ((SZ.a c t : Nat) : Int)) [m1, cD c, .list (lN (SZ.row c n)), .int (t : Int), .none] := eCall_k (ρ1 := [m1, cD c, .list (lN (SZ.row c n)), .int (t : Int), .none]) [cD c, .int (t : Int)] rfl (most_told_ok hc (by omega)) rfl
  have c3 : eBin dIx (eV 2) (eV 3) [m1, cD c, .list (lN (SZ.row c n)), .int (t : Int), .none] = .ok (.int ((SZ.a c t : Nat) : Int)) [m1, cD c, .list (lN (SZ.row c n)), .int (t : Int), .none] := by
    refine eBin_ok (b := .int (t : Int)) rfl rfl ?_
    rw [dIx_lN (by rw [SZ.row_len]; omega), SZ.row_at c (by omega)]
  have small : SZ.a c t < 10 ^ 100 := by
    have h1 := SZ.a_le c t
    have h2 : 2 ^ t ≤ 2 ^ 198 := Nat.pow_le_pow_right (by decide) (by omega)
    have h3 : 2 ^ 198 < 10 ^ 100 := by decide +kernel
    omega
  have s2 : q2 [m1, cD c, .list (lN (SZ.row c n)), .int (t : Int), .none] = .nx [m1, cD c, .list (lN (SZ.row c n)), .int (t : Int), .none] := sIf_nil (repr_same c2 c3 (okR_sml (nat_sml small)))
  have s3 : q3 [m1, cD c, .list (lN (SZ.row c n)), .int (t : Int), .none] = .nx [m1, cD c, .list (lN (SZ.row c n)), .int (t : Int), .list (lN (SZ.row c 0))] := rfl
  have s4 : q4 [m1, cD c, .list (lN (SZ.row c n)), .int (t : Int), .list (lN (SZ.row c 0))] = .nx [m1, cD c, .list (lN (SZ.row c n)), .int (t : Int), .list (lN (SZ.row c 200))] := by
    rw [lg_eq]
    exact lg_loop c m1 (.list (lN (SZ.row c n))) (.int (t : Int)) 200 0 100000000 (by omega) (by omega)
  have eqn : ∀ j : Nat, j ≤ 200 → ∀ jd : PyData, jd = .int (j : Int) → eBin dEq (eCall [none, none] (aCons (eV 1) (aCons (eK jd) aNil)) D_most_told) (eBin dIx (eV 4) (eK jd)) [m1, cD c, .list (lN (SZ.row c n)), .int (t : Int), .list (lN (SZ.row c 200))] = .ok (.bool true) [m1, cD c, .list (lN (SZ.row c n)), .int (t : Int), .list (lN (SZ.row c 200))] := by
    intro j hj jd hjd
    subst hjd
    have z1 : eCall [none, none] (aCons (eV 1) (aCons (eK (.int (j : Int))) aNil)) D_most_told [m1, cD c, .list (lN (SZ.row c n)), .int (t : Int), .list (lN (SZ.row c 200))] = .ok (.int ((SZ.a c j : Nat) : Int)) [m1, cD c, .list (lN (SZ.row c n)), .int (t : Int), .list (lN (SZ.row c 200))] := eCall_k (ρ1 := [m1, cD c, .list (lN (SZ.row c n)), .int (t : Int), .list (lN (SZ.row c 200))]) [cD c, .int (j : Int)] rfl (most_told_ok hc hj) rfl
    refine eBin_ok z1 (eBin_ok (b := .int (j : Int)) (r := .int ((SZ.a c j : Nat) : Int)) rfl rfl ?_) (dEq_same _)
    rw [dIx_lN (by rw [SZ.row_len]; omega), SZ.row_at c hj]
  have s5 : q5 [m1, cD c, .list (lN (SZ.row c n)), .int (t : Int), .list (lN (SZ.row c 200))] = .rt (.bool true) [m1, cD c, .list (lN (SZ.row c n)), .int (t : Int), .list (lN (SZ.row c 200))] := by
    refine sRet_ok ?_
    unfold eAnd
    rw [eqn 200 (by omega) (.int 200) rfl]
    exact eqn 151 (by omega) (.int 151) rfl
  refine ⟨m1, ?_, hm1⟩
  rw [law_most_right_eq]
  exact fnB_rt' (ρ' := [m1, cD c, .list (lN (SZ.row c n)), .int (t : Int), .list (lN (SZ.row c 200))]) ((sSeq_nx s0).trans ((sSeq_nx s1).trans ((sSeq_nx s2).trans ((sSeq_nx s3).trans ((sSeq_nx s4).trans s5))))) rfl
/-! ### the law -/
theorem t1_ok (x tn : PyData) {b : Nat} {m : PyData} (hm : MOk b m) (hb : b + 30 < 2 ^ 90) : ∃ m', t1B [x, m, tn, .none] = .nx [x, m', .none, .none] ∧ MOk (b + 9) m' := by
  obtain ⟨k, m1, e1, hk, hm1⟩ := law_kind_ok hm (by omega)
  obtain ⟨m2, e2, hm2⟩ := law_right_ok hk hm1 (by omega)
  obtain ⟨v, m3, e3, v0, v1, hm3⟩ := nxt1 next_N (x := x) (m0 := m2) (r := [tn, .none]) (fa := eK (.int 7)) hm2 (by omega) (by decide) (sm_lt (by decide)) rfl
  obtain ⟨c, hc⟩ : ∃ c : Nat, 2 + v = (c : Int) := ⟨(2 + v).toNat, by omega⟩
  obtain ⟨m4, e4, hm4⟩ := law_most_right_ok (c := some c) (fun k e => by cases e; omega) hm3 (by omega)
  have c1 : eCall [some 1] (aIo aNil) D_law_kind [x, m, tn, .none] = .ok k.D [x, m1, tn, .none] := eCall_k [.none] rfl e1 rfl
  have c2 := call1 (r := [tn, .none]) c1 e2
  have c3 : eBin dAdd (eK (.int 2)) (eCall [some 1, none] (aIo (aCons (eK (.int 7)) aNil)) D_law_next) [x, m2, tn, .none] = .ok (.int (c : Int)) [x, m3, tn, .none] := by
    rw [← hc]
    exact eBin_ok (a := .int 2) (b := .int v) rfl e3 rfl
  have c4 := call1 (r := [tn, .none]) c3 e4
  refine ⟨m4, ?_, hm4.up (by omega)⟩
  exact (sSeq_nx (sIf_nil ((bOr_ff (bNot_ok (b := true) (eTst_ok c2 rfl))).trans (bNot_ok (b := true) (eTst_ok c4 rfl))))).trans rfl
theorem t1_loop (x : PyData) : ∀ (n : Nat) (j : Int) (b : Nat) (m : PyData), MOk b m → b + 100 * n + 200 < 2 ^ 90 →
    ∃ m', forGo t1G t1B (rngs j n) [x, m, .none, .none] = .nx [x, m', .none, .none] ∧ MOk (b + 100 * n) m'
  | 0, j, b, m, hm, _ => ⟨m, rfl, hm⟩
  | n + 1, j, b, m, hm, hb => by
    obtain ⟨m1, e1, hm1⟩ := t1_ok x (.int j) hm (by omega)
    obtain ⟨m2, e2, hm2⟩ := t1_loop x n (j + 1) (b + 9) m1 hm1 (by omega)
    refine ⟨m2, ?_, hm2.up (by omega)⟩
    rw [rngs_succ]
    exact (forGo_go (ρ1 := [x, m, .int j, .none]) rfl e1).trans e2
theorem t2_loop (x : PyData) : ∀ (ks : List Kd) (b : Nat) (m : PyData), (∀ k ∈ ks, k.Ok) → MOk b m → b + 100 * ks.length + 200 < 2 ^ 90 →
    ∃ m', forGo t2G t2B (ks.map Kd.D) [x, m, .none, .none] = .nx [x, m', .none, .none] ∧ MOk (b + 100 * ks.length) m'
  | [], b, m, _, hm, _ => ⟨m, rfl, hm⟩
  | k :: ks, b, m, hk, hm, hb => by
    rw [List.length_cons] at hb ⊢
    obtain ⟨m1, e1, hm1⟩ := law_right_ok (hk k List.mem_cons_self) hm (by omega)
    obtain ⟨m2, e2, hm2⟩ := t2_loop x ks (b + 4) m1 (fun k h => hk k (List.mem_cons_of_mem _ h)) hm1 (by omega)
    have c1 : eCall [some 1, none] (aIo (aCons (eV 3) aNil)) D_law_right (x :: m :: [PyData.none, k.D]) = .ok (.bool true) (x :: m1 :: [PyData.none, k.D]) := call1 rfl e1
    have e3 : t2B [x, m, .none, k.D] = .nx [x, m1, .none, .none] := (sSeq_nx (sIf_nil (bNot_ok (b := true) (eTst_ok c1 rfl)))).trans rfl
    exact ⟨m2, (forGo_go (ρ1 := [x, m, .none, k.D]) rfl e3).trans e2, hm2.up (by omega)⟩
theorem lot1 : D_is_lot [.int 10, .tuple []] = .ok (.bool true) [.int 10, .tuple []] := by kernel_rfl
theorem lot2 : D_is_lot [.int 10, .tuple [.int 1, .int 9]] = .ok (.bool true) [.int 10, .tuple [.int 1, .int 9]] := by kernel_rfl
theorem lot3 : D_is_lot [.int 10, .tuple [.int 10]] = .ok (.bool false) [.int 10, .tuple [.int 10]] := by kernel_rfl
theorem lot4 : D_is_lot [.int 10, .tuple [.int 0]] = .ok (.bool false) [.int 10, .tuple [.int 0]] := by kernel_rfl
theorem hand (x : PyData) {b : Nat} {m : PyData} (hm : MOk b m) (hb : b + 30 < 2 ^ 90) : ∃ m', sSeq t3 t4 [x, m, .none, .none] = .rt (.bool true) [x, m', .none, .none] := by
  obtain ⟨m1, e1, hm1⟩ := law_most_right_ok (c := none) (fun k e => nomatch e) hm (by omega)
  have e30 : 7 ≤ 10 ^ 30 := by decide +kernel
  have c1 : eCall [some 1, none] (aIo (aCons (eK .none) aNil)) D_law_most_right (x :: m :: [PyData.none, PyData.none]) = .ok (.bool true) (x :: m1 :: [PyData.none, PyData.none]) := call1 rfl e1
  have z1 : Sz .half 7 [4, 2, 1] := rfl
  have z2 : Sz (.best 2) 6 [4, 2] := ⟨3, ⟨by decide, by decide⟩, rfl⟩
  have c2 : eCall [none, none] (aCons (eTup (aCons (eK (.str "half")) aNil)) (aCons (eK (.int 7)) aNil)) D_sizes [x, m1, .none, .none] = .ok (.tuple (lN [4, 2, 1])) [x, m1, .none, .none] := eCall_k (ρ1 := [x, m1, .none, .none]) [Kd.half.D, .int ((7 : Nat) : Int)] rfl (sizes_ok (k := .half) trivial e30 z1) rfl
  have c3 : eCall [none, none] (aCons (eTup (aCons (eK (.str "best")) (aCons (eK (.int 2)) aNil))) (aCons (eK (.int 6)) aNil)) D_sizes [x, m1, .none, .none] = .ok (.tuple (lN [4, 2])) [x, m1, .none, .none] := eCall_k (ρ1 := [x, m1, .none, .none]) [(Kd.best 2).D, .int ((6 : Nat) : Int)] rfl (sizes_ok (k := .best 2) ⟨by decide, by decide⟩ (by omega) z2) rfl
  have s3 : t3 [x, m, .none, .none] = .nx [x, m1, .none, .none] :=
    sIf_nil ((bOr_ff (bNot_ok (b := true) (eTst_ok c1 rfl))).trans ((bOr_ff (tB (g := dNe) (b := .tuple (lN [4, 2, 1])) c2 rfl (dNe_tup (flat_lN _)))).trans (tB (g := dNe) (b := .tuple (lN [4, 2])) c3 rfl (dNe_tup (flat_lN _)))))
  have l1 : eCall [none, none] (aCons (eK (.int 10)) (aCons (eTup aNil) aNil)) D_is_lot [x, m1, .none, .none] = .ok (.bool true) [x, m1, .none, .none] := eCall_k (ρ1 := [x, m1, .none, .none]) [.int 10, .tuple []] rfl lot1 rfl
  have l2 : eCall [none, none] (aCons (eK (.int 10)) (aCons (eTup (aCons (eK (.int 1)) (aCons (eK (.int 9)) aNil))) aNil)) D_is_lot [x, m1, .none, .none] = .ok (.bool true) [x, m1, .none, .none] := eCall_k (ρ1 := [x, m1, .none, .none]) [.int 10, .tuple [.int 1, .int 9]] rfl lot2 rfl
  have l3 : eCall [none, none] (aCons (eK (.int 10)) (aCons (eTup (aCons (eK (.int 10)) aNil)) aNil)) D_is_lot [x, m1, .none, .none] = .ok (.bool false) [x, m1, .none, .none] := eCall_k (ρ1 := [x, m1, .none, .none]) [.int 10, .tuple [.int 10]] rfl lot3 rfl
  have l4 : eCall [none, none] (aCons (eK (.int 10)) (aCons (eTup (aCons (eK (.int 0)) aNil)) aNil)) D_is_lot [x, m1, .none, .none] = .ok (.bool false) [x, m1, .none, .none] := eCall_k (ρ1 := [x, m1, .none, .none]) [.int 10, .tuple [.int 0]] rfl lot4 rfl
  have n3 : eNot (eCall [none, none] (aCons (eK (.int 10)) (aCons (eTup (aCons (eK (.int 10)) aNil)) aNil)) D_is_lot) [x, m1, .none, .none] = .ok (.bool true) [x, m1, .none, .none] := eUn_ok l3 rfl
  have n4 : eNot (eCall [none, none] (aCons (eK (.int 10)) (aCons (eTup (aCons (eK (.int 0)) aNil)) aNil)) D_is_lot) [x, m1, .none, .none] = .ok (.bool true) [x, m1, .none, .none] := eUn_ok l4 rfl
  have and_t : ∀ fa fb : M PyData, fa [x, m1, .none, .none] = .ok (.bool true) [x, m1, .none, .none] → eAnd fa fb [x, m1, .none, .none] = fb [x, m1, .none, .none] := by
    intro fa fb h
    unfold eAnd; rw [h]; rfl
  have s4 : t4 [x, m1, .none, .none] = .rt (.bool true) [x, m1, .none, .none] := sRet_ok ((and_t _ _ l1).trans ((and_t _ _ l2).trans ((and_t _ _ n3).trans n4)))
  exact ⟨m1, (sSeq_nx s3).trans s4⟩
theorem law_true (ns : List Int) (h : ns.length ≤ 63) : ∃ ρ', D_law [.list (ns.map .int)] = .ok (.bool true) ρ' := by
  obtain ⟨m, e0, hm⟩ := begunz_of ns h
  rw [← begun_eq] at e0
  generalize hx : PyData.list (ns.map .int) = x at e0
  have s0 : t0 ([x] ++ List.replicate 3 .none) = .nx [x, m, .none, .none] := by
    have c1 : eCall [none] (aCons (eV 0) aNil) D_law_begun [x, .none, .none, .none] = .ok m [x, .none, .none, .none] := eCall_k (ρ1 := [x, .none, .none, .none]) [x] rfl e0 rfl
    exact sSet_ok c1
  have el : eCB dLen (aCons (eV 0) aNil) [x, m, .none, .none] = .ok (.int (ns.length : Nat)) [x, m, .none, .none] := by
    refine eCB_ok (ds := [x]) rfl ?_
    rw [← hx]
    show some (PyData.int ((ns.map PyData.int).length : Nat)) = _
    rw [List.length_map]
  have c6 : eBin dAdd (eK (.int 2)) (eCB dMin (aCons (eCB dLen (aCons (eV 0) aNil)) (aCons (eK (.int 6)) aNil))) [x, m, .none, .none] = .ok (.int ((2 + min ns.length 6 : Nat) : Int)) [x, m, .none, .none] := by
    refine eBin_ok (a := .int ((2 : Nat) : Int)) (b := .int ((min ns.length 6 : Nat) : Int)) rfl (eCB_ok (ds := [.int (ns.length : Nat), .int ((6 : Nat) : Int)]) (aCons_ok el rfl) (dMin_nat _ _)) (dAdd_nat _ _)
  have r := rng1_ok (j := ((2 + min ns.length 6 : Nat) : Int)) (by omega) (by omega)
  rw [Int.toNat_natCast] at r
  obtain ⟨m1, e1, hm1⟩ := t1_loop x (2 + min ns.length 6) 0 0 m hm (by omega)
  have s1 : t1 [x, m, .none, .none] = .nx [x, m1, .none, .none] := (sFor_ok (aft1_ok (a1_ok c6) r)).trans e1
  obtain ⟨m2, e2, hm2⟩ := t2_loop x [.half, .parts 2, .parts 8, .best 2, .best 8, .heap 2, .heap 8] _ m1 (by
    intro k hk
    simp only [List.mem_cons, List.not_mem_nil, or_false] at hk
    rcases hk with rfl | rfl | rfl | rfl | rfl | rfl | rfl
    · trivial
    all_goals exact ⟨by decide, by decide⟩) hm1 (by
    rw [show [Kd.half, .parts 2, .parts 8, .best 2, .best 8, .heap 2, .heap 8].length = 7 from rfl]
    have : min ns.length 6 ≤ 6 := Nat.min_le_right _ _
    omega)
  have s2 : t2 [x, m1, .none, .none] = .nx [x, m2, .none, .none] := (sFor_ok (ds := [Kd.half, .parts 2, .parts 8, .best 2, .best 8, .heap 2, .heap 8].map Kd.D) (ρ' := [x, m1, .none, .none]) rfl).trans e2
  obtain ⟨m3, e3⟩ := hand x hm2 (by
    rw [show [Kd.half, .parts 2, .parts 8, .best 2, .best 8, .heap 2, .heap 8].length = 7 from rfl]
    have : min ns.length 6 ≤ 6 := Nat.min_le_right _ _
    omega)
  rw [law_eq]
  exact ⟨_, fnB_rt ((sSeq_nx s0).trans ((sSeq_nx s1).trans ((sSeq_nx s2).trans e3)))⟩
end GL

set_option maxHeartbeats 0
open PySem PySem.W PySem.Calls PyProof.Rows
theorem PySem.Challenge.cw_callsdown_k01_whole_shapes_holds : PySem.Challenge.rw_callsdown_k01_whole_shapes.Holds := by
  w_on; o_law
  refine HandSHeadRun.head_any (r := OpenLaw.row PySem.Challenge.rw_callsdown_k01_whole_shapes) (q := view (OpenLaw.row PySem.Challenge.rw_callsdown_k01_whole_shapes).prog [37]) (H := GL.hk) (ob := GL.hob) (M := 3000) (loose := GL.loose) (d := HandSHeadRun.topDef (OpenLaw.row PySem.Challenge.rw_callsdown_k01_whole_shapes).prog 37) (kwd := []) GL.hob_eq
    (by kernel_rfl) (fun s => by kernel_rfl) GL.hrun (by kernel_rfl) (by kernel_rfl) (by kernel_rfl) (by rfl) (by first | assumption | decide +kernel) (by decide +kernel) ⟨rfl, rfl, rfl, rfl, rfl, by decide +kernel⟩ ?hw ?hc
  case hw => w_witness2
  case hc =>
    refine G.walk_ofG (l := PySem.Challenge.rw_callsdown_k01_whole_shapes) (n := 63) (k := 6) (x := "script") rfl (by decide) (by kernel_rfl) ⟨rfl, by decide, by decide⟩ ?F
    intro w mg fa h Y Gns hmg0
    obtain ⟨K, KX, c⟩ := Y
    have hmg : mg ("law" : PySem.Str) = some (.ref fa) := by
      have e : (HandSHeadRun.topDef (OpenLaw.row PySem.Challenge.rw_callsdown_k01_whole_shapes).prog 37).name = ("law" : PySem.Str) := by kernel_rfl
      rw [← e]
      exact hmg0
    have hd : G.Hd GL.hfa GL.hfn K mg := ⟨⟨h, KX, Gns⟩, c⟩
    obtain ⟨fd, F⟩ := hd.def_ 23 (d := GL.d_law) rfl
    have e := hmg.symm.trans (hd.glo 46 (x := "law") rfl)
    cases e
    have b := L2.FunD.bindsA (ps := ["script"]) F fun _ _ _ _ _ _ us hl => match us, hl with | [_], _ => rfl
    exact ⟨K, fd, G.spG K mg [none] .sh GL.D_law, KX, fun s v => b s [v] rfl, G.law_sp GL.law_true, fun base _ _ => GL.fg_law hd F⟩
