import PyProof.Rows.All
import Wide.All
import OpenK.AllK
import Wide.FinOn
import HandS.ForMost
import HandS.ForExc
import HandS.AnyAll
import KE.DataEq
import HandS.TupAny
import HandS.IsInst
import HandS.RaiseMore
import KE.LtData
import KE.DataCmp
import HandS.Flow
import HandS.FStr
import HandS.Walk
import HandS.Zip
import HandS.Text
import HandS.More
import HandS.Strs
import KE.GoesZip
import KE.GoesMore
import HandS.Defaults
import HandS.Codes
import HandS.GenOver
import HandS.GenList
import PyProof.ConsumeS
import HandS.IntHex
import HandS.SortRule
import KE.SortData
import HandS.CallLocal
import HandS.EndTab
import HandS.Head0
import HandS.Head1
import HandS.Head2
import HandS.HeadHook4
import HandS.HeadWalk
import HandS.NestedK
import KE.BitLaws
import PySem.Challenge.RW_roadblind_k91_table_texts
set_option Elab.async false
set_option linter.all false
set_option maxRecDepth 100000
set_option maxHeartbeats 0
/-! PyI1: plain values, a plain store, what they stand for. -/
namespace PyI
open L2 PySem PySem.Spec PyProof.Rows

/-! ### plain values -/
inductive PV where
  | non | bl (b : Bool) | int (i : Int) | str (s : Str) | tup (xs : List PV) | ctup (xs : List PV) | ilst (xs : List PV) | obj (n : Nat) | fn (x : Str) | kd (x : Str)
  deriving Inhabited

mutual
def PV.eqb : PV → PV → Bool
  | .non, .non => true
  | .bl a, .bl b => a == b
  | .int a, .int b => a == b
  | .str a, .str b => a == b
  | .tup a, .tup b => PV.eqbs a b
  | .ctup a, .ctup b => PV.eqbs a b
  | .ilst a, .ilst b => PV.eqbs a b
  | .obj a, .obj b => a == b
  | .fn a, .fn b => a == b
  | .kd a, .kd b => a == b
  | _, _ => false
def PV.eqbs : List PV → List PV → Bool
  | [], [] => true
  | a :: r, b :: s => PV.eqb a b && PV.eqbs r s
  | _, _ => false
end
mutual
theorem PV.eqb_iff : ∀ a b : PV, PV.eqb a b = true ↔ a = b
  | .non, b => by cases b <;> simp [PV.eqb]
  | .bl a, b => by cases b <;> simp [PV.eqb]
  | .int a, b => by cases b <;> simp [PV.eqb]
  | .str a, b => by cases b <;> simp [PV.eqb]
  | .obj a, b => by cases b <;> simp [PV.eqb]
  | .fn a, b => by cases b <;> simp [PV.eqb]
  | .kd a, b => by cases b <;> simp [PV.eqb]
  | .tup a, b => by
    cases b with
    | tup b => simp [PV.eqb, PV.eqbs_iff a b]
    | _ => simp [PV.eqb]
  | .ctup a, b => by
    cases b with
    | ctup b => simp [PV.eqb, PV.eqbs_iff a b]
    | _ => simp [PV.eqb]
  | .ilst a, b => by
    cases b with
    | ilst b => simp [PV.eqb, PV.eqbs_iff a b]
    | _ => simp [PV.eqb]
theorem PV.eqbs_iff : ∀ a b : List PV, PV.eqbs a b = true ↔ a = b
  | [], b => by cases b <;> simp [PV.eqbs]
  | a :: r, b => by
    cases b with
    | nil => simp [PV.eqbs]
    | cons b s => simp [PV.eqbs, PV.eqb_iff a b, PV.eqbs_iff r s]
end
instance : DecidableEq PV := fun a b => decidable_of_iff _ (PV.eqb_iff a b)

/-- what stands in the plain store -/
inductive Ob where
  | lst (xs : List PV)
  | dK (kvs : List (Key × PV))
  | dT (kvs : List (List Key × PV))
  | ins (C : Str) (fs : List (Str × PV))
  deriving DecidableEq, Inhabited
abbrev Store := List Ob
/-- an exception: its class, its own fields -/
abbrev Ex := Str × List (Str × PV)
inductive Res (α : Type) where
  | ok (a : α) (st : Store)
  | ex (e : Ex) (st : Store)
  | no
abbrev M (α : Type) := Store → Res α
namespace M
def ret {α : Type} (a : α) : M α := fun st => .ok a st
def fail {α : Type} : M α := fun _ => .no
def bind {α β : Type} (m : M α) (k : α → M β) : M β := fun st => match m st with
  | .ok a st' => k a st'
  | .ex e st' => .ex e st'
  | .no => .no
end M
instance : Monad M where
  pure := M.ret
  bind := M.bind
theorem bind_ok {α β : Type} {m : M α} {k : α → M β} {st st' : Store} {a : α} (h : m st = .ok a st') : (m >>= k) st = k a st' := by
  show M.bind m k st = _
  unfold M.bind
  rw [h]
theorem bind_no {α β : Type} {m : M α} {k : α → M β} {st : Store} (h : m st = .no) : (m >>= k) st = .no := by
  show M.bind m k st = _
  unfold M.bind
  rw [h]
theorem bind_ex {α β : Type} {m : M α} {k : α → M β} {st st' : Store} {e : Ex} (h : m st = .ex e st') : (m >>= k) st = .ex e st' := by
  show M.bind m k st = _
  unfold M.bind
  rw [h]
@[simp] theorem pure_app {α : Type} {a : α} {st : Store} : (pure a : M α) st = .ok a st := rfl
@[simp] theorem fail_app {α : Type} {st : Store} : (M.fail : M α) st = .no := rfl
theorem bind_app {α β : Type} (m : M α) (k : α → M β) (st : Store) : (m >>= k) st = match m st with
  | .ok a st' => k a st'
  | .ex e st' => .ex e st'
  | .no => .no := rfl

/-! ### what the values stand for -/
/-- the written part, the tables of code objects, where classes, defs, written dicts stand -/
structure Gd where
  K : PySem.W.Frag
  tabs : List Addr
  cls : Str → Addr
  fna : Str → Addr
  kda : Str → Addr
abbrev Rho := List Addr
/-- a list that nobody writes -/
def SqI (K : PySem.W.Frag) (H : Hp) (a : Addr) (xs : List V) : Prop :=
  (∃ o, H a = some (.frz o (.lst xs))) ∨
    ∃ (o : Obj) (its : Array Value) (n : Nat), K.lookup a = some o ∧ o.cls = .type "list" ∧ o.dict = none ∧ o.data = .seq its n ∧ its.size ≤ sizeLine ∧ Vals xs its.toList
/-- a tuple of the written part -/
def SqK (K : PySem.W.Frag) (a : Addr) (xs : List V) : Prop :=
  ∃ (o : Obj) (its : Array Value) (n : Nat), K.lookup a = some o ∧ o.cls = .type "tuple" ∧ o.data = .seq its n ∧ its.size ≤ sizeLine ∧ Vals xs its.toList
theorem SqK.sq {K : PySem.W.Frag} {H : Hp} {a : Addr} {xs : List V} (h : SqK K a xs) : SqT K H a xs := .inr h
theorem SqI.sq {K : PySem.W.Frag} {H : Hp} {a : Addr} {xs : List V} (h : SqI K H a xs) : SqL K H a xs := by
  rcases h with ⟨o, h⟩ | h
  · exact .inl (.inr ⟨o, h⟩)
  · exact .inr h
mutual
inductive RepV (g : Gd) (ρ : Rho) (H : Hp) : V → PV → Prop
  | non : RepV g ρ H .non .non
  | bl (b : Bool) : RepV g ρ H (.bl b) (.bl b)
  | int (i : Int) : RepV g ρ H (.int i) (.int i)
  | str (s : Str) : RepV g ρ H (.str s) (.str s)
  | tup {a : Addr} {vs : List V} {xs : List PV} : H a = some (.tup vs) → RepL g ρ H vs xs → RepV g ρ H (.ref a) (.tup xs)
  | ctup {a : Addr} {vs : List V} {xs : List PV} : SqK g.K a vs → RepL g ρ H vs xs → RepV g ρ H (.ref a) (.ctup xs)
  | ilst {a : Addr} {vs : List V} {xs : List PV} : SqI g.K H a vs → RepL g ρ H vs xs → RepV g ρ H (.ref a) (.ilst xs)
  | obj {a : Addr} {n : Nat} : ρ[n]? = some a → RepV g ρ H (.ref a) (.obj n)
  | fn (x : Str) : RepV g ρ H (.ref (g.fna x)) (.fn x)
  | kd (x : Str) : RepV g ρ H (.ref (g.kda x)) (.kd x)
inductive RepL (g : Gd) (ρ : Rho) (H : Hp) : List V → List PV → Prop
  | nil : RepL g ρ H [] []
  | cons {v : V} {vs : List V} {d : PV} {ds : List PV} : RepV g ρ H v d → RepL g ρ H vs ds → RepL g ρ H (v :: vs) (d :: ds)
end
/-- a heap's object against the store's -/
def HR (g : Gd) (ρ : Rho) (H : Hp) : HO → Ob → Prop
  | .lst vs, .lst xs => RepL g ρ H vs xs
  | .dK ws, .dK kvs => ws.map (·.1) = kvs.map (·.1) ∧ RepL g ρ H (ws.map (·.2)) (kvs.map (·.2))
  | .dT ws, .dT kvs => ws.map (·.1) = kvs.map (·.1) ∧ RepL g ρ H (ws.map (·.2)) (kvs.map (·.2))
  | .ins C _ gs, .ins c fs => C = g.cls c ∧ gs.map (·.1) = fs.map (·.1) ∧ RepL g ρ H (gs.map (·.2)) (fs.map (·.2))
  | _, _ => False
structure Sim (g : Gd) (ρ : Rho) (st : Store) (H : Hp) : Prop where
  len : ρ.length = st.length
  nd : ρ.Nodup
  at_ : ∀ (n : Nat) (a : Addr) (ob : Ob), ρ[n]? = some a → st[n]? = some ob → ∃ u, H a = some u ∧ HR g ρ H u ob
  tabs : ∀ P ∈ g.tabs, GxR.TabG H P
/-- what an evaluation does to the heap -/
structure Ext (ρ : Rho) (H : Hp) (ρ' : Rho) (H' : Hp) : Prop where
  pre : ρ <+: ρ'
  new : ∀ a ∈ ρ', a ∈ ρ ∨ H a = none
  there : ∀ a o, H a = some o → ∃ o', H' a = some o'
  keep : ∀ a o, H a = some o → a ∉ ρ → (∀ ps, o ≠ .tbl ps) → H' a = some o

theorem Ext.refl (ρ : Rho) (H : Hp) : Ext ρ H ρ H := ⟨List.prefix_refl _, fun _ h => .inl h, fun _ o h => ⟨o, h⟩, fun _ _ h _ _ => h⟩
theorem Ext.trans {ρ ρ1 ρ2 : Rho} {H H1 H2 : Hp} (a : Ext ρ H ρ1 H1) (b : Ext ρ1 H1 ρ2 H2) : Ext ρ H ρ2 H2 where
  pre := a.pre.trans b.pre
  new := fun c hc => by
    rcases b.new c hc with h | h
    · exact a.new c h
    · refine .inr ?_
      cases q : H c with
      | none => rfl
      | some o =>
        obtain ⟨o', e⟩ := a.there c o q
        rw [h] at e; cases e
  there := fun c o q => by
    obtain ⟨o1, e1⟩ := a.there c o q
    exact b.there c o1 e1
  keep := fun c o q hr ht => b.keep c o (a.keep c o q hr ht) (fun hc => by
    rcases a.new c hc with z | z
    · exact hr z
    · rw [z] at q; cases q) ht

theorem Ext.none {ρ ρ' : Rho} {H H' : Hp} {a : Addr} (E : Ext ρ H ρ' H') (h : H' a = Option.none) : H a = Option.none := by
  cases q : H a with
  | none => rfl
  | some o =>
    obtain ⟨o', e⟩ := E.there a o q
    rw [h] at e; cases e
section
variable {g : Gd} {ρ ρ' : Rho} {H H' : Hp} {st st' : Store} {a p : Addr} {n : Nat}
theorem HR.not_tup {xs : List V} {ob : Ob} : ¬ HR g ρ H (.tup xs) ob := fun h => by cases ob <;> exact h
theorem HR.not_frz {o : Obj} {u : HO} {ob : Ob} : ¬ HR g ρ H (.frz o u) ob := fun h => by cases ob <;> exact h
theorem HR.not_tbl {ps : Array Value} {ob : Ob} : ¬ HR g ρ H (.tbl ps) ob := fun h => by cases ob <;> exact h
theorem HR.not_own {x : Addr} {ob : Ob} : ¬ HR g ρ H (.own x) ob := fun h => by cases ob <;> exact h
theorem Sim.some (S : Sim g ρ st H) (h : a ∈ ρ) : ∃ (n : Nat) (ob : Ob) (u : HO), ρ[n]? = Option.some a ∧ st[n]? = Option.some ob ∧ H a = Option.some u ∧ HR g ρ H u ob := by
  obtain ⟨n, hn, e⟩ := List.mem_iff_getElem.mp h
  have h1 : ρ[n]? = Option.some a := by rw [List.getElem?_eq_getElem hn, e]
  have h2 : n < st.length := by rw [← S.len]; exact hn
  have h3 : st[n]? = Option.some st[n] := List.getElem?_eq_getElem h2
  obtain ⟨u, e1, e2⟩ := S.at_ n a _ h1 h3
  exact ⟨n, _, u, h1, h3, e1, e2⟩
theorem Sim.notin (S : Sim g ρ st H) {u : HO} (h : H a = Option.some u) (hu : ∀ ob, ¬ HR g ρ H u ob) : a ∉ ρ := fun hm => by
  obtain ⟨_, ob, u', _, _, e, r⟩ := S.some hm
  rw [h] at e; cases e
  exact hu ob r
theorem Sim.notin_none (S : Sim g ρ st H) (h : H a = none) : a ∉ ρ := fun hm => by
  obtain ⟨_, ob, u', _, _, e, r⟩ := S.some hm
  rw [h] at e; cases e
theorem tup_ext (S : Sim g ρ st H) (E : Ext ρ H ρ' H') {vs : List V} (h : H a = Option.some (.tup vs)) : H' a = Option.some (.tup vs) :=
  E.keep a _ h (S.notin h fun _ => HR.not_tup) (fun ps z => by cases z)
theorem sqI_ext (S : Sim g ρ st H) (E : Ext ρ H ρ' H') {vs : List V} (h : SqI g.K H a vs) : SqI g.K H' a vs := by
  rcases h with ⟨o, h⟩ | h
  · exact .inl ⟨o, E.keep a _ h (S.notin h fun _ => HR.not_frz) (fun ps z => by cases z)⟩
  · exact .inr h
theorem pre_get (E : ρ <+: ρ') (h : ρ[n]? = Option.some a) : ρ'[n]? = Option.some a := by
  obtain ⟨t, rfl⟩ := E
  have hn : n < ρ.length := (List.getElem?_eq_some_iff.mp h).1
  rw [List.getElem?_append_left hn]
  exact h
mutual
theorem RepV.ext (S : Sim g ρ st H) (E : Ext ρ H ρ' H') : ∀ {v : V} {d : PV}, RepV g ρ H v d → RepV g ρ' H' v d
  | _, _, .non => .non
  | _, _, .bl b => .bl b
  | _, _, .int i => .int i
  | _, _, .str s => .str s
  | _, _, .tup h r => .tup (tup_ext S E h) (RepL.ext S E r)
  | _, _, .ctup h r => .ctup h (RepL.ext S E r)
  | _, _, .ilst h r => .ilst (sqI_ext S E h) (RepL.ext S E r)
  | _, _, .obj h => .obj (pre_get E.pre h)
  | _, _, .fn x => .fn x
  | _, _, .kd x => .kd x
theorem RepL.ext (S : Sim g ρ st H) (E : Ext ρ H ρ' H') : ∀ {vs : List V} {ds : List PV}, RepL g ρ H vs ds → RepL g ρ' H' vs ds
  | _, _, .nil => .nil
  | _, _, .cons h r => .cons (RepV.ext S E h) (RepL.ext S E r)
end
theorem HR.ext (S : Sim g ρ st H) (E : Ext ρ H ρ' H') {u : HO} {ob : Ob} (h : HR g ρ H u ob) : HR g ρ' H' u ob := by
  cases u <;> cases ob <;> first | exact h.elim | exact RepL.ext S E h | exact ⟨h.1, RepL.ext S E h.2⟩ | exact ⟨h.1, h.2.1, RepL.ext S E h.2.2⟩
/-- a thing that is no store's is laid at a free place -/
theorem Sim.extFresh (S : Sim g ρ st H) (hp : H p = none) (o : HO) : Ext ρ H ρ (upd H p o) :=
  ⟨List.prefix_refl _, fun _ h => .inl h, fun b u h => ⟨u, by rw [upd_ne (ne_of_none h hp)]; exact h⟩, fun b u h _ _ => by rw [upd_ne (ne_of_none h hp)]; exact h⟩
theorem tabG_upd {P : Addr} {o : HO} (h : GxR.TabG H P) (hp : H p = none) : GxR.TabG (upd H p o) P := by
  obtain ⟨ps, e, t⟩ := h
  exact ⟨ps, by rw [upd_ne (ne_of_none e hp)]; exact e, t⟩
theorem Sim.fresh (S : Sim g ρ st H) (hp : H p = none) (o : HO) : Sim g ρ st (upd H p o) :=
  ⟨S.len, S.nd, fun n a ob h1 h2 => by
    obtain ⟨u, e, r⟩ := S.at_ n a ob h1 h2
    exact ⟨u, by rw [upd_ne (ne_of_none e hp)]; exact e, r.ext S (S.extFresh hp o)⟩, fun P h => tabG_upd (S.tabs P h) hp⟩
/-- a new object of the store -/
theorem Sim.extNew (S : Sim g ρ st H) (hp : H p = none) (o : HO) : Ext ρ H (ρ ++ [p]) (upd H p o) :=
  ⟨List.prefix_append _ _, fun b h => by
    rcases List.mem_append.mp h with h | h
    · exact .inl h
    · rw [List.mem_singleton] at h; subst h; exact .inr hp, fun b u h => ⟨u, by rw [upd_ne (ne_of_none h hp)]; exact h⟩, fun b u h _ _ => by rw [upd_ne (ne_of_none h hp)]; exact h⟩
theorem Sim.new (S : Sim g ρ st H) (hp : H p = none) {o : HO} {ob : Ob} (h : HR g (ρ ++ [p]) (upd H p o) o ob) : Sim g (ρ ++ [p]) (st ++ [ob]) (upd H p o) :=
  ⟨by rw [List.length_append, List.length_append, S.len]; rfl, List.nodup_append.mpr ⟨S.nd, by simp, fun a h1 b h2 => by
      rw [List.mem_singleton] at h2; subst h2
      exact fun e => S.notin_none hp (e ▸ h1)⟩, fun n a ob' h1 h2 => by
    by_cases hn : n < ρ.length
    · rw [List.getElem?_append_left hn] at h1
      rw [List.getElem?_append_left (by rw [← S.len]; exact hn)] at h2
      obtain ⟨u, e, r⟩ := S.at_ n a ob' h1 h2
      exact ⟨u, by rw [upd_ne (ne_of_none e hp)]; exact e, r.ext S (S.extNew hp o)⟩
    · rw [List.getElem?_append_right (by omega)] at h1
      rw [List.getElem?_append_right (by rw [← S.len]; omega)] at h2
      have hz : n - ρ.length = 0 := by
        cases q : n - ρ.length with
        | zero => rfl
        | succ k => rw [q] at h1; simp at h1
      rw [← S.len, hz] at h2
      rw [hz] at h1
      cases h1; cases h2
      exact ⟨o, upd_same, h⟩, fun P h => tabG_upd (S.tabs P h) hp⟩
/-- an object of the store is written -/
theorem Sim.extSet (S : Sim g ρ st H) (hn : ρ[n]? = Option.some a) (o : HO) : Ext ρ H ρ (upd H a o) :=
  ⟨List.prefix_refl _, fun _ h => .inl h, fun b u h => by
    by_cases hb : b = a
    · subst hb; exact ⟨o, upd_same⟩
    · exact ⟨u, by rw [upd_ne hb]; exact h⟩, fun b u h hb _ => by
    have nb : b ≠ a := fun z => hb (by rw [z]; exact List.mem_of_getElem? hn)
    rw [upd_ne nb]; exact h⟩
theorem Sim.set (S : Sim g ρ st H) (hn : ρ[n]? = Option.some a) {o : HO} {ob : Ob} (h : HR g ρ H o ob) : Sim g ρ (st.set n ob) (upd H a o) :=
  ⟨by rw [List.length_set]; exact S.len, S.nd, fun m b ob' h1 h2 => by
    by_cases hb : b = a
    · subst hb
      have e : m = n := by
        have hm := (List.getElem?_eq_some_iff.mp h1)
        have hn' := (List.getElem?_eq_some_iff.mp hn)
        obtain ⟨l1, e1⟩ := hm
        obtain ⟨l2, e2⟩ := hn'
        exact (List.getElem_inj S.nd).mp (e1.trans e2.symm)
      subst e
      rw [List.getElem?_set_self (by rw [← S.len]; exact (List.getElem?_eq_some_iff.mp hn).1)] at h2
      cases h2
      exact ⟨o, upd_same, h.ext S (S.extSet hn o)⟩
    · have e : m ≠ n := fun z => by
        subst z; rw [hn] at h1; cases h1; exact hb rfl
      rw [List.getElem?_set_ne (Ne.symm e)] at h2
      obtain ⟨u, e1, r⟩ := S.at_ m b ob' h1 h2
      exact ⟨u, by rw [upd_ne hb]; exact e1, r.ext S (S.extSet hn o)⟩, fun P hP => by
    obtain ⟨ps, e, t⟩ := S.tabs P hP
    have : P ≠ a := fun z => by
      obtain ⟨_, ob', u', _, _, e', r'⟩ := S.some (List.mem_of_getElem? hn)
      rw [z] at e; rw [e] at e'; cases e'; exact HR.not_tbl r'
    exact ⟨ps, by rw [upd_ne this]; exact e, t⟩⟩
/-- the store's object at n -/
theorem Sim.get (S : Sim g ρ st H) {ob : Ob} (hn : ρ[n]? = Option.some a) (h : st[n]? = Option.some ob) : ∃ u, H a = Option.some u ∧ HR g ρ H u ob := S.at_ n a ob hn h
theorem HR.lst_inv {u : HO} {xs : List PV} (h : HR g ρ H u (.lst xs)) : ∃ vs, u = .lst vs ∧ RepL g ρ H vs xs := by
  cases u <;> first | exact h.elim | exact ⟨_, rfl, h⟩
theorem HR.dK_inv {u : HO} {kvs : List (Key × PV)} (h : HR g ρ H u (.dK kvs)) : ∃ ws, u = .dK ws ∧ ws.map (·.1) = kvs.map (·.1) ∧ RepL g ρ H (ws.map (·.2)) (kvs.map (·.2)) := by
  cases u <;> first | exact h.elim | exact ⟨_, rfl, h⟩
theorem HR.dT_inv {u : HO} {kvs : List (List Key × PV)} (h : HR g ρ H u (.dT kvs)) : ∃ ws, u = .dT ws ∧ ws.map (·.1) = kvs.map (·.1) ∧ RepL g ρ H (ws.map (·.2)) (kvs.map (·.2)) := by
  cases u <;> first | exact h.elim | exact ⟨_, rfl, h⟩
theorem HR.ins_inv {u : HO} {c : Str} {fs : List (Str × PV)} (h : HR g ρ H u (.ins c fs)) : ∃ dx gs, u = .ins (g.cls c) dx gs ∧ gs.map (·.1) = fs.map (·.1) ∧ RepL g ρ H (gs.map (·.2)) (fs.map (·.2)) := by
  cases u <;> first | exact h.elim | (obtain ⟨rfl, h⟩ := h; exact ⟨_, _, rfl, h⟩)

/-! ### lists of values -/
theorem RepL.length : ∀ {vs : List V} {ds : List PV}, RepL g ρ H vs ds → vs.length = ds.length
  | _, _, .nil => rfl
  | _, _, .cons _ r => by simp [RepL.length r]
theorem RepL.get : ∀ {vs : List V} {ds : List PV} {i : Nat} {d : PV}, RepL g ρ H vs ds → ds[i]? = Option.some d → ∃ v, vs[i]? = Option.some v ∧ RepV g ρ H v d
  | _, _, _, _, .nil, h => by simp at h
  | _, _, 0, _, .cons h _, e => by simp at e; subst e; exact ⟨_, rfl, h⟩
  | _, _, i + 1, d, .cons _ r, e => by
    obtain ⟨v, h1, h2⟩ := RepL.get (i := i) (d := d) r (by simpa using e)
    exact ⟨v, by simpa using h1, h2⟩
theorem RepL.get' : ∀ {vs : List V} {ds : List PV} {i : Nat} {v : V}, RepL g ρ H vs ds → vs[i]? = Option.some v → ∃ d, ds[i]? = Option.some d ∧ RepV g ρ H v d
  | _, _, _, _, .nil, h => by simp at h
  | _, _, 0, _, .cons h _, e => by simp at e; subst e; exact ⟨_, rfl, h⟩
  | _, _, i + 1, v, .cons _ r, e => by
    obtain ⟨d, h1, h2⟩ := RepL.get' (i := i) (v := v) r (by simpa using e)
    exact ⟨d, by simpa using h1, h2⟩
theorem RepL.append : ∀ {vs us : List V} {ds es : List PV}, RepL g ρ H vs ds → RepL g ρ H us es → RepL g ρ H (vs ++ us) (ds ++ es)
  | _, _, _, _, .nil, s => s
  | _, _, _, _, .cons h r, s => .cons h (RepL.append r s)
theorem RepL.one {v : V} {d : PV} (h : RepV g ρ H v d) : RepL g ρ H [v] [d] := .cons h .nil
theorem RepL.set : ∀ {vs : List V} {ds : List PV} (i : Nat) {v : V} {d : PV}, RepL g ρ H vs ds → RepV g ρ H v d → RepL g ρ H (vs.set i v) (ds.set i d)
  | _, _, _, _, _, .nil, _ => .nil
  | _, _, 0, _, _, .cons _ r, h => .cons h r
  | _, _, i + 1, _, _, .cons q r, h => .cons q (RepL.set i r h)
theorem RepL.take : ∀ {vs : List V} {ds : List PV} (n : Nat), RepL g ρ H vs ds → RepL g ρ H (vs.take n) (ds.take n)
  | _, _, 0, _ => .nil
  | _, _, _ + 1, .nil => .nil
  | _, _, n + 1, .cons h r => .cons h (RepL.take n r)
theorem RepL.drop : ∀ {vs : List V} {ds : List PV} (n : Nat), RepL g ρ H vs ds → RepL g ρ H (vs.drop n) (ds.drop n)
  | _, _, 0, h => h
  | _, _, _ + 1, .nil => .nil
  | _, _, n + 1, .cons _ r => RepL.drop n r
theorem RepL.reverse : ∀ {vs : List V} {ds : List PV}, RepL g ρ H vs ds → RepL g ρ H vs.reverse ds.reverse
  | _, _, .nil => .nil
  | _, _, .cons h r => by
    rw [List.reverse_cons, List.reverse_cons]
    exact (RepL.reverse r).append (.one h)
theorem RepL.eraseIdx : ∀ {vs : List V} {ds : List PV} (n : Nat), RepL g ρ H vs ds → RepL g ρ H (vs.eraseIdx n) (ds.eraseIdx n)
  | _, _, _, .nil => .nil
  | _, _, 0, .cons _ r => r
  | _, _, n + 1, .cons h r => .cons h (RepL.eraseIdx n r)
theorem RepL.dropLast {vs : List V} {ds : List PV} (h : RepL g ρ H vs ds) : RepL g ρ H vs.dropLast ds.dropLast := by
  rw [List.dropLast_eq_take, List.dropLast_eq_take, h.length]
  exact h.take _
theorem RepL.ints : ∀ (ns : List Int), RepL g ρ H (ns.map V.int) (ns.map PV.int)
  | [] => .nil
  | n :: r => .cons (.int n) (RepL.ints r)
end

/-! ### a plain result against what is wanted -/
abbrev XW := Ex → Store → Rho → Hp → Prop
/-- an evaluation's result r, begun at ρ and H: whatever heap shows it, Q holds there -/
def Post {α : Type} (g : Gd) (W : XW) (ρ : Rho) (H : Hp) (r : Res α) (Q : α → Store → Rho → Hp → Prop) : Prop := match r with
  | .ok a st => ∀ ρ' H', Ext ρ H ρ' H' → Sim g ρ' st H' → Q a st ρ' H'
  | .ex e st => ∀ ρ' H', Ext ρ H ρ' H' → Sim g ρ' st H' → W e st ρ' H'
  | .no => False
section
variable {g : Gd} {W : XW} {ρ ρ' : Rho} {H H' : Hp} {st : Store} {α β : Type}
theorem Post.mono {r : Res α} {Q Q' : α → Store → Rho → Hp → Prop} (h : Post g W ρ H r Q) (hq : ∀ a st' ρ' H', Ext ρ H ρ' H' → Sim g ρ' st' H' → Q a st' ρ' H' → Q' a st' ρ' H') : Post g W ρ H r Q' := by
  cases r with
  | ok a st => exact fun ρ' H' E S => hq a st ρ' H' E S (h ρ' H' E S)
  | ex e st => exact h
  | no => exact h
theorem Post.monoE {r : Res α} {Q Q' : α → Store → Rho → Hp → Prop} (h : Post g W ρ H r Q) (hq : ∀ a st' ρ' H', r = .ok a st' → Ext ρ H ρ' H' → Sim g ρ' st' H' → Q a st' ρ' H' → Q' a st' ρ' H') : Post g W ρ H r Q' := by
  cases r with
  | ok a st => exact fun ρ' H' E S => hq a st ρ' H' rfl E S (h ρ' H' E S)
  | ex e st => exact h
  | no => exact h
theorem Post.bind {m : M α} {k : α → M β} {Q : β → Store → Rho → Hp → Prop} (h : Post g W ρ H ((m >>= k) st) Q) : Post g W ρ H (m st) fun a st' ρ' H' => Post g W ρ' H' (k a st') Q := by
  rw [bind_app] at h
  cases e : m st with
  | ok a st' =>
    rw [e] at h
    intro ρ' H' E S
    have h2 : Post g W ρ H (k a st') Q := h
    show Post g W ρ' H' (k a st') Q
    cases e2 : k a st' with
    | ok b st2 => rw [e2] at h2; exact fun ρ2 H2 E2 S2 => h2 ρ2 H2 (E.trans E2) S2
    | ex b st2 => rw [e2] at h2; exact fun ρ2 H2 E2 S2 => h2 ρ2 H2 (E.trans E2) S2
    | no => rw [e2] at h2; exact h2
  | ex b st' => rw [e] at h; exact h
  | no => rw [e] at h; exact h
theorem Post.ret {a : α} {Q : α → Store → Rho → Hp → Prop} (h : Post g W ρ H ((pure a : M α) st) Q) (S : Sim g ρ st H) : Q a st ρ H := h ρ H (Ext.refl _ _) S
end

/-! ### slots -/
abbrev EnvP := List (Option PV)
structure EnvR (g : Gd) (ρ : Rho) (H : Hp) (σ : L2.St) (env : EnvP) : Prop where
  len : σ.length = env.length
  at_ : ∀ (i : Nat) (d : PV), env[i]? = some (some d) → ∃ v, σ[i]? = some (some v) ∧ RepV g ρ H v d
section
variable {g : Gd} {ρ ρ' : Rho} {H H' : Hp} {st : Store} {σ : L2.St} {env : EnvP}
theorem EnvR.ext (S : Sim g ρ st H) (E : Ext ρ H ρ' H') (h : EnvR g ρ H σ env) : EnvR g ρ' H' σ env := ⟨h.len, fun i d e => by
  obtain ⟨v, e1, r⟩ := h.at_ i d e
  exact ⟨v, e1, r.ext S E⟩⟩
theorem EnvR.set (h : EnvR g ρ H σ env) (i : Nat) {v : V} {d : PV} (r : RepV g ρ H v d) : EnvR g ρ H (σ.set i (some v)) (env.set i (some d)) := ⟨by simp [h.len], fun j d' e => by
  by_cases hj : i = j
  · subst hj
    by_cases hi : i < env.length
    · rw [List.getElem?_set_self hi] at e
      cases e
      exact ⟨v, by rw [List.getElem?_set_self (by rw [h.len]; exact hi)], r⟩
    · rw [List.getElem?_eq_none (by simpa using hi)] at e; cases e
  · rw [List.getElem?_set_ne hj] at e
    obtain ⟨v', e1, r'⟩ := h.at_ j d' e
    exact ⟨v', by rw [List.getElem?_set_ne hj]; exact e1, r'⟩⟩
def wipeP (env : EnvP) : List Nat → EnvP
  | [] => env
  | v :: vs => (wipeP env vs).set v none
theorem wipeP_length (env : EnvP) : ∀ vs : List Nat, (wipeP env vs).length = env.length
  | [] => rfl
  | v :: vs => by unfold wipeP; rw [List.length_set, wipeP_length env vs]
theorem EnvR.wipe (h : EnvR g ρ H σ env) : ∀ vs : List Nat, EnvR g ρ H (L2.wipe σ vs) (wipeP env vs)
  | [] => h
  | w :: vs => by
    have ih := EnvR.wipe h vs
    refine ⟨by rw [L2.wipe_length, wipeP_length, h.len], fun j d e => ?_⟩
    unfold wipeP at e
    unfold L2.wipe
    by_cases hj : w = j
    · subst hj
      by_cases hi : w < (wipeP env vs).length
      · rw [List.getElem?_set_self hi] at e; cases e
      · rw [List.getElem?_eq_none (by simpa using hi)] at e; cases e
    · rw [List.getElem?_set_ne hj] at e
      obtain ⟨v', e1, r'⟩ := ih.at_ j d e
      exact ⟨v', by rw [List.getElem?_set_ne hj]; exact e1, r'⟩
end
end PyI

/-! PyI2: expressions. -/
namespace PyI
open L2 PySem PySem.Spec PyProof.Rows

abbrev Dn := EnvP → M PV
abbrev Tn := EnvP → M Bool
abbrev Ln := EnvP → M (List PV)

section
variable (g : Gd) (W : XW)
def tI (f : Dn) : TE := fun σ H Q => ∃ ρ env st, EnvR g ρ H σ env ∧ Sim g ρ st H ∧ Post g W ρ H (f env st) fun d _ ρ' H' => ∀ v, RepV g ρ' H' v d → Q v H'
def tT (f : Tn) : TT := fun σ H Q => ∃ ρ env st, EnvR g ρ H σ env ∧ Sim g ρ st H ∧ Post g W ρ H (f env st) fun b _ _ H' => Q b H'
def tA (f : Ln) : TA := fun σ H Q => ∃ ρ env st, EnvR g ρ H σ env ∧ Sim g ρ st H ∧ Post g W ρ H (f env st) fun xs _ ρ' H' => ∀ vs, RepL g ρ' H' vs xs → Q vs H'
/-- a list that only the place at hand holds -/
def tL (f : Ln) : TE := fun σ H Q => ∃ ρ env st, EnvR g ρ H σ env ∧ Sim g ρ st H ∧ Post g W ρ H (f env st) fun xs _ ρ' H' => ∀ a vs, a ∉ ρ' → H a = none → H' a = some (.lst vs) → RepL g ρ' H' vs xs → Q (.ref a) H'
end
section
variable {X : Cx}
theorem _root_.L2.PE.pimp {e : Expr} {t t' : TE} (h : PE X e t) (q : ∀ σ H Q, t' σ H Q → t σ H Q) : PE X e t' := ⟨fun pins s σ H Q I hw => h.run pins s σ H Q I (q σ H Q hw)⟩
theorem _root_.L2.PT.pimp {e : Expr} {t t' : TT} (h : PT X e t) (q : ∀ σ H Q, t' σ H Q → t σ H Q) : PT X e t' := ⟨fun pins s σ H Q I hw => h.run pins s σ H Q I (q σ H Q hw)⟩
theorem _root_.L2.PW.pimp {e : Expr} {t t' : TT} (h : PW X e t) (q : ∀ σ H Q, t' σ H Q → t σ H Q) : PW X e t' := ⟨fun wh pins s σ H Q I hw => h.run wh pins s σ H Q I (q σ H Q hw)⟩
theorem _root_.L2.PA.pimp {e : List Expr} {t t' : TA} (h : PA X e t) (q : ∀ σ H Q, t' σ H Q → t σ H Q) : PA X e t' := ⟨fun pos pins s σ H Q I hw => h.run pos pins s σ H Q I (q σ H Q hw)⟩
theorem _root_.L2.PS.pimp {e : Stmt} {t t' : TS} (h : PS X e t) (q : ∀ D σ H, t' D σ H → t D σ H) : PS X e t' := ⟨fun pins s σ H D I hw => h.run pins s σ H D I (q D σ H hw)⟩
theorem _root_.L2.PSs.pimp {e : List Stmt} {t t' : TS} (h : PSs X e t) (q : ∀ D σ H, t' D σ H → t D σ H) : PSs X e t' := ⟨fun pins s σ H D I hw => h.run pins s σ H D I (q D σ H hw)⟩
theorem _root_.L2.PE.por {e : Expr} {t t' : TE} (h : PE X e t) (h' : PE X e t') : PE X e (fun σ H Q => t σ H Q ∨ t' σ H Q) := ⟨fun pins s σ H Q I hw => hw.elim (h.run pins s σ H Q I) (h'.run pins s σ H Q I)⟩
theorem _root_.L2.PT.por {e : Expr} {t t' : TT} (h : PT X e t) (h' : PT X e t') : PT X e (fun σ H Q => t σ H Q ∨ t' σ H Q) := ⟨fun pins s σ H Q I hw => hw.elim (h.run pins s σ H Q I) (h'.run pins s σ H Q I)⟩
theorem _root_.L2.PS.por {e : Stmt} {t t' : TS} (h : PS X e t) (h' : PS X e t') : PS X e (fun D σ H => t D σ H ∨ t' D σ H) := ⟨fun pins s σ H D I hw => hw.elim (h.run pins s σ H D I) (h'.run pins s σ H D I)⟩
theorem _root_.L2.PE.pno {e : Expr} : PE X e (fun _ _ _ => False) := ⟨fun _ _ _ _ _ _ h => h.elim⟩
end

/-! ### combinators -/
def cVar (i : Nat) : Dn := fun env st => match env[i]? with
  | some (some d) => .ok d st
  | _ => .no
def cC (d : PV) : Dn := fun _ => pure d
def cBin (F : PV → PV → M PV) (fa fb : Dn) : Dn := fun env => do
  let a ← fa env
  let b ← fb env
  F a b
def cUn (F : PV → M PV) (fa : Dn) : Dn := fun env => do
  let a ← fa env
  F a
def cArgs : List Dn → Ln
  | [], _ => pure []
  | f :: fs, env => do
    let a ← f env
    let r ← cArgs fs env
    pure (a :: r)
def cTup (fs : Ln) : Dn := fun env => do
  let xs ← fs env
  if xs.length ≤ sizeLine then pure (.tup xs) else M.fail
/-- a new list of the store -/
def newLst (xs : List PV) : M PV := fun st => .ok (.obj st.length) (st ++ [.lst xs])
def cKeep (f : Ln) : Dn := fun env => do
  let xs ← f env
  newLst xs
def cLst (fs : Ln) : Ln := fun env => do
  let xs ← fs env
  if xs.length ≤ sizeLine then pure xs else M.fail
def cIf {α : Type} (t : Tn) (a b : EnvP → M α) : EnvP → M α := fun env => do
  let c ← t env
  if c then a env else b env
def cAndT (a b : Tn) : Tn := fun env => do
  let c ← a env
  if c then b env else pure false
def cOrT (a b : Tn) : Tn := fun env => do
  let c ← a env
  if c then pure true else b env
def cNotT (a : Tn) : Tn := fun env => do
  let c ← a env
  pure (!c)
def asBool : PV → M Bool
  | .bl b => pure b
  | _ => M.fail
def truth : PV → M Bool
  | .non => pure false
  | .bl b => pure b
  | .int i => pure (i != 0)
  | .str s => if s.length ≤ sizeLine then pure (s.length != 0) else M.fail
  | .tup xs => pure (!xs.isEmpty)
  | .ctup xs => pure (!xs.isEmpty)
  | .ilst xs => pure (!xs.isEmpty)
  | .obj n => fun st => match st[n]? with
    | some (.lst xs) => .ok (!xs.isEmpty) st
    | some (.dK kvs) => .ok (!kvs.isEmpty) st
    | _ => .no
  | _ => M.fail
def cTruth (a : Dn) : Tn := fun env => do
  let d ← a env
  truth d
def cOfT (a : Tn) : Dn := fun env => do
  let c ← a env
  pure (.bl c)
def cAndV (a b : Dn) : Dn := fun env => do
  let d ← a env
  let c ← truth d
  if c then b env else pure d
def cOrV (a b : Dn) : Dn := fun env => do
  let d ← a env
  let c ← truth d
  if c then pure d else b env
/-- a < b < c -/
def cChain (F G : PV → PV → M PV) (fa fb fc : Dn) : Dn := fun env => do
  let a ← fa env
  let b ← fb env
  let r ← F a b
  let k ← asBool r
  if k then do
    let c ← fc env
    let z ← G b c
    let j ← asBool z
    pure (.bl j)
  else pure (.bl false)

section
variable {X : Cx} {g : Gd} {W : XW} {a b c : Expr} {fa fb fc : Dn} {pos : Pos}
theorem tI_run {σ : L2.St} {H : Hp} {Q : VK} {f : Dn} {ρ : Rho} {env : EnvP} {st : Store} (E : EnvR g ρ H σ env) (S : Sim g ρ st H) (h : Post g W ρ H (f env st) fun d _ ρ' H' => ∀ v, RepV g ρ' H' v d → Q v H') : tI g W f σ H Q := ⟨ρ, env, st, E, S, h⟩

theorem s_var {i : Nat} {x : Str} (hN : X.N[i]? = some x) (hv : Vis X.env.scope x) (hd : (x == ("__debug__" : Str)) = false) (hcd : (x == ("__classdict__" : Str)) = false) : PE X (.Name x pos) (tI g W (cVar i)) :=
  (pe_var hN hv hd hcd).pimp fun σ H Q ⟨ρ, env, st, E, S, h⟩ => by
    unfold cVar at h
    split at h
    · rename_i d e
      obtain ⟨v, e1, r⟩ := E.at_ i d e
      exact ⟨v, e1, (h ρ H (Ext.refl _ _) S) v r⟩
    · exact h.elim
/-- a constant -/
theorem s_const {v : V} {d : PV} (h : PE X a (tC v)) (r : ∀ ρ H, RepV g ρ H v d) : PE X a (tI g W (cC d)) :=
  h.pimp fun σ H Q ⟨ρ, env, st, E, S, h⟩ => (h ρ H (Ext.refl _ _) S) v (r ρ H)

/-! ### operators by values -/
/-- F is what f does, on values that are shown -/
def OpS (g : Gd) (W : XW) (F : PV → PV → M PV) (r : R2) : Prop := ∀ {ρ : Rho} {st : Store} {H : Hp} {x y : V} {d e : PV} {Q : VK}, Sim g ρ st H → RepV g ρ H x d → RepV g ρ H y e →
  Post g W ρ H (F d e st) (fun z _ ρ' H' => ∀ v, RepV g ρ' H' v z → Q v H') → r x y H Q
theorem tOp_of {F : PV → PV → M PV} {r : R2} (hF : OpS g W F r) {σ : L2.St} {H : Hp} {Q : VK} (h : tI g W (cBin F fa fb) σ H Q) : tOp r (tI g W fa) (tI g W fb) σ H Q := by
  obtain ⟨ρ, env, st, E, S, h⟩ := h
  unfold cBin at h
  refine ⟨ρ, env, st, E, S, h.bind.mono fun d st1 ρ1 H1 x1 S1 h1 v hv => ?_⟩
  refine ⟨ρ1, env, st1, E.ext S x1, S1, h1.bind.mono fun e st2 ρ2 H2 x2 S2 h2 u hu => ?_⟩
  exact hF S2 (hv.ext S1 x2) hu h2
theorem s_bin {op : Operator} {F : PV → PV → M PV} {r : R2} (ho : OpR X (binaryOp op) r) (hF : OpS g W F r) (ha : PE X a (tI g W fa)) (hb : PE X b (tI g W fb)) : PE X (.BinOp a op b pos) (tI g W (cBin F fa fb)) :=
  (pe_op ho ha hb).pimp fun _ _ _ h => tOp_of hF h
theorem s_cmp {op : CmpOp} {F : PV → PV → M PV} {r : R2} (ho : OpR X (compareOp op) r) (hF : OpS g W F r) (ha : PE X a (tI g W fa)) (hb : PE X b (tI g W fb)) (hm : behindInMarks op b = false) : PE X (.Compare a [op] [b] pos) (tI g W (cBin F fa fb)) :=
  (pe_cmpR ho ha hb hm).pimp fun _ _ _ h => tOp_of hF h
/-- a comparison as a test -/
def cTest (f : Dn) : Tn := fun env => do
  let d ← f env
  asBool d
theorem Post.asBool {ρ : Rho} {H : Hp} {st : Store} {d : PV} {Q : Bool → Store → Rho → Hp → Prop} (h : Post g W ρ H (asBool d st) Q) (S : Sim g ρ st H) : ∃ b, d = .bl b ∧ Q b st ρ H := by
  cases d <;> first | exact h.elim | exact ⟨_, rfl, h ρ H (Ext.refl _ _) S⟩
theorem tTest_of {t : TE} {f : Dn} (ht : ∀ σ H Q, tI g W f σ H Q → t σ H Q) {σ : L2.St} {H : Hp} {Q : Bool → Hp → Prop} (h : tT g W (cTest f) σ H Q) : tTest t σ H Q := by
  obtain ⟨ρ, env, st, E, S, h⟩ := h
  refine ht σ H _ ⟨ρ, env, st, E, S, h.bind.mono fun d st1 ρ1 H1 x1 S1 h1 v hv => ?_⟩
  obtain ⟨b, rfl, q⟩ := Post.asBool h1 S1
  cases hv
  exact ⟨b, rfl, q⟩
theorem s_cmpT {op : CmpOp} {F : PV → PV → M PV} {r : R2} (ho : OpR X (compareOp op) r) (hF : OpS g W F r) (ha : PE X a (tI g W fa)) (hb : PE X b (tI g W fb)) (hm : behindInMarks op b = false) : PT X (.Compare a [op] [b] pos) (tT g W (cTest (cBin F fa fb))) :=
  (pt_cmpR ho ha hb hm).pimp fun _ _ _ h => tTest_of (fun _ _ _ => tOp_of hF) h
theorem tChain_of {F G : PV → PV → M PV} {r r' : R2} (hF : OpS g W F r) (hG : OpS g W G r') {σ : L2.St} {H : Hp} {Q : VK} (h : tI g W (cChain F G fa fb fc) σ H Q) : tChain r r' (tI g W fa) (tI g W fb) (tI g W fc) σ H Q := by
  obtain ⟨ρ, env, st, E, S, h⟩ := h
  unfold cChain at h
  refine ⟨ρ, env, st, E, S, h.bind.mono fun d st1 ρ1 H1 x1 S1 h1 v hv => ?_⟩
  have E1 := E.ext S x1
  refine ⟨ρ1, env, st1, E1, S1, h1.bind.mono fun e st2 ρ2 H2 x2 S2 h2 u hu => ?_⟩
  have E2 := E1.ext S1 x2
  refine hF S2 (hv.ext S1 x2) hu (h2.bind.mono fun z st3 ρ3 H3 x3 S3 h3 y hy => ?_)
  have E3 := E2.ext S2 x3
  obtain ⟨k, rfl, q⟩ := Post.asBool h3.bind S3
  cases hy
  refine ⟨k, rfl, ?_⟩
  cases k with
  | false => exact iteF ((q ρ3 H3 (Ext.refl _ _) S3) (.bl false) (.bl false))
  | true =>
    refine iteT ⟨ρ3, env, st3, E3, S3, Post.mono (Post.bind (show Post g W ρ3 H3 ((do let c ← fc env; let z ← G e c; let j ← asBool z; pure (.bl j) : M PV) st3) _ from q)) fun w st4 ρ4 H4 x4 S4 h4 cc hc => ?_⟩
    refine hG S4 ((hu.ext S2 x3).ext S3 x4) hc (h4.bind.mono fun z5 st5 ρ5 H5 x5 S5 h5 v5 hv5 => ?_)
    obtain ⟨j, rfl, q5⟩ := Post.asBool h5.bind S5
    cases hv5
    exact (q5 ρ5 H5 (Ext.refl _ _) S5) (.bl j) (.bl j)
theorem s_chain {op op' : CmpOp} {F G : PV → PV → M PV} {r r' : R2} (ho : OpR X (compareOp op) r) (hF : OpS g W F r) (ho' : OpR X (compareOp op') r') (hG : OpS g W G r') (ha : PE X a (tI g W fa)) (hb : PE X b (tI g W fb)) (hc : PE X c (tI g W fc)) (hm : lastMarks [op, op'] [b, c] = false) :
    PE X (.Compare a [op, op'] [b, c] pos) (tI g W (cChain F G fa fb fc)) := (pe_chain ho ho' ha hb hc hm).pimp fun _ _ _ h => tChain_of hF hG h
theorem s_chainT {op op' : CmpOp} {F G : PV → PV → M PV} {r r' : R2} (ho : OpR X (compareOp op) r) (hF : OpS g W F r) (ho' : OpR X (compareOp op') r') (hG : OpS g W G r') (ha : PE X a (tI g W fa)) (hb : PE X b (tI g W fb)) (hc : PE X c (tI g W fc)) (hm : lastMarks [op, op'] [b, c] = false) :
    PT X (.Compare a [op, op'] [b, c] pos) (tT g W (cTest (cChain F G fa fb fc))) := (pt_chain ho ho' ha hb hc hm).pimp fun _ _ _ h => tTest_of (fun _ _ _ => tChain_of hF hG) h
theorem s_un {op : UnaryOp} {F : PV → M PV} {r : V → Hp → VK → Prop} (ho : UnR X (unaryOp op) r)
    (hF : ∀ {ρ : Rho} {st : Store} {H : Hp} {x : V} {d : PV} {Q : VK}, Sim g ρ st H → RepV g ρ H x d → Post g W ρ H (F d st) (fun z _ ρ' H' => ∀ v, RepV g ρ' H' v z → Q v H') → r x H Q) (ha : PE X a (tI g W fa)) : PE X (.UnaryOp op a pos) (tI g W (cUn F fa)) :=
  (pe_un ho ha).pimp fun σ H Q ⟨ρ, env, st, E, S, h⟩ => ⟨ρ, env, st, E, S, h.bind.mono fun d st1 ρ1 H1 x1 S1 h1 v hv => hF S1 hv h1⟩

/-! ### argument lists, displays -/
theorem s_nil : PA X [] (tA g W (cArgs [])) := pa_nil.pimp fun σ H Q ⟨ρ, env, st, E, S, h⟩ => (h ρ H (Ext.refl _ _) S) [] .nil
def starred : Expr → Bool
  | .Starred _ _ => true
  | _ => false
theorem star_plain {e : Expr} (h : starred e = false) (es : List Expr) (env : Env) : starEach (e :: es) env = (false, eval e env) :: starEach es env := by
  cases e <;> first | rfl | (exact absurd h (by simp [starred]))
theorem s_cons {es : List Expr} {fs : List Dn} (ha : PE X a (tI g W fa)) (hr : PA X es (tA g W (cArgs fs))) (hs : starred a = false) : PA X (a :: es) (tA g W (cArgs (fa :: fs))) :=
  (pa_cons ha hr (star_plain hs _ _)).pimp fun σ H Q ⟨ρ, env, st, E, S, h⟩ => by
    unfold cArgs at h
    refine ⟨ρ, env, st, E, S, h.bind.mono fun d st1 ρ1 H1 x1 S1 h1 v hv => ?_⟩
    refine ⟨ρ1, env, st1, E.ext S x1, S1, h1.bind.mono fun ds st2 ρ2 H2 x2 S2 h2 vs hvs => ?_⟩
    exact (h2 ρ2 H2 (Ext.refl _ _) S2) (v :: vs) (.cons (hv.ext S1 x2) hvs)
theorem s_tup {es : List Expr} {fs : List Dn} {k : Nat} (h : PA X es (tA g W (cArgs fs))) : PE X (.Tuple es k pos) (tI g W (cTup (cArgs fs))) :=
  (pe_tup h).pimp fun σ H Q ⟨ρ, env, st, E, S, h⟩ => ⟨ρ, env, st, E, S, h.bind.mono fun xs st1 ρ1 H1 x1 S1 h1 vs hvs => by
    by_cases hz : xs.length ≤ sizeLine
    · rw [if_pos hz] at h1
      refine ⟨by rw [hvs.length]; exact hz, fun p hp => ?_⟩
      exact (h1 ρ1 _ (S1.extFresh hp (.tup vs)) (S1.fresh hp _)) (.ref p) (.tup upd_same (hvs.ext S1 (S1.extFresh hp _)))
    · rw [if_neg hz] at h1; exact h1.elim⟩
/-- a display, its list held by nobody else -/
theorem s_lst {es : List Expr} {fs : List Dn} (h : PA X es (tA g W (cArgs fs))) : PE X (.List es pos) (tL g W (cLst (cArgs fs))) :=
  (pe_lst h).pimp fun σ H Q ⟨ρ, env, st, E, S, h⟩ => ⟨ρ, env, st, E, S, h.bind.mono fun xs st1 ρ1 H1 x1 S1 h1 vs hvs => by
    by_cases hz : xs.length ≤ sizeLine
    · rw [if_pos hz] at h1
      refine ⟨by rw [hvs.length]; exact hz, fun p hp => ?_⟩
      exact (h1 ρ1 _ (S1.extFresh hp (.lst vs)) (S1.fresh hp _)) p vs (S1.notin_none hp) (x1.none hp) upd_same (hvs.ext S1 (S1.extFresh hp _))
    · rw [if_neg hz] at h1; exact h1.elim⟩
/-- the store takes such a list up -/
theorem Sim.take {ρ : Rho} {st : Store} {H : Hp} {p : Addr} {vs : List V} {xs : List PV} (S : Sim g ρ st H) (hp : p ∉ ρ) (e : H p = Option.some (.lst vs)) (r : RepL g ρ H vs xs) : Sim g (ρ ++ [p]) (st ++ [Ob.lst xs]) H := by
  have mono : ∀ {v : V} {d : PV}, RepV g ρ H v d → RepV g (ρ ++ [p]) H v d := fun {v d} => ?_
  case refine_1 =>
    intro h
    have key : ∀ (v : V) (d : PV), RepV g ρ H v d → RepV g (ρ ++ [p]) H v d := by
      intro v d h
      exact (RepV.rec (motive_1 := fun v d _ => RepV g (ρ ++ [p]) H v d) (motive_2 := fun vs ds _ => RepL g (ρ ++ [p]) H vs ds) .non (fun b => .bl b) (fun i => .int i) (fun s => .str s) (fun h _ ih => .tup h ih) (fun h _ ih => .ctup h ih) (fun h _ ih => .ilst h ih)
        (fun h => .obj (pre_get (List.prefix_append _ _) h)) (fun x => .fn x) (fun x => .kd x) .nil (fun _ _ a b => .cons a b) h)
    exact key v d h
  have monoL : ∀ {vs : List V} {ds : List PV}, RepL g ρ H vs ds → RepL g (ρ ++ [p]) H vs ds := by
    intro vs ds h
    induction vs generalizing ds with
    | nil => cases h; exact .nil
    | cons v vs ih => cases h with | cons a b => exact .cons (mono a) (ih b)
  refine ⟨by rw [List.length_append, List.length_append, S.len]; rfl, List.nodup_append.mpr ⟨S.nd, by simp, fun a h1 b h2 => by
      rw [List.mem_singleton] at h2; subst h2
      exact fun e => hp (e ▸ h1)⟩, fun n a ob' h1 h2 => ?_, S.tabs⟩
  by_cases hn : n < ρ.length
  · rw [List.getElem?_append_left hn] at h1
    rw [List.getElem?_append_left (by rw [← S.len]; exact hn)] at h2
    obtain ⟨u, e1, r1⟩ := S.at_ n a ob' h1 h2
    refine ⟨u, e1, ?_⟩
    cases u <;> cases ob' <;> first | exact r1.elim | exact monoL r1 | exact ⟨r1.1, monoL r1.2⟩ | exact ⟨r1.1, r1.2.1, monoL r1.2.2⟩
  · rw [List.getElem?_append_right (by omega)] at h1
    rw [List.getElem?_append_right (by rw [← S.len]; omega)] at h2
    have hz : n - ρ.length = 0 := by
      cases q : n - ρ.length with
      | zero => rfl
      | succ k => rw [q] at h1; simp at h1
    rw [← S.len, hz] at h2
    rw [hz] at h1
    cases h1; cases h2
    exact ⟨_, e, monoL r⟩
end
end PyI

/-! PyI3: operators on plain values. -/
namespace PyI
open L2 PySem PySem.Spec PyProof.Rows

/-! ### plain data -/
mutual
def pdOf : PV → Option PyData
  | .non => some .none
  | .bl b => some (.bool b)
  | .int i => some (.int i)
  | .str s => some (.str s)
  | .tup xs => (pdsOf xs).map .tuple
  | .ctup xs => (pdsOf xs).map .tuple
  | .ilst xs => (pdsOf xs).map .list
  | _ => none
def pdsOf : List PV → Option (List PyData)
  | [] => some []
  | x :: r => match pdOf x, pdsOf r with
    | some d, some ds => some (d :: ds)
    | _, _ => none
end
/-- .. a list of the store too -/
def pdAt (st : Store) : PV → Option PyData
  | .obj n => match st[n]? with
    | some (.lst xs) => (pdsOf xs).map .list
    | _ => none
  | d => pdOf d
section
variable {g : Gd} {ρ : Rho} {H : Hp} {st : Store}
mutual
theorem dp_of : ∀ {v : V} {d : PV} {p : PyData}, RepV g ρ H v d → pdOf d = some p → Dp g.K H v p ∧ p.plain = true
  | _, _, _, .non, e => by cases e; exact ⟨.non, rfl⟩
  | _, _, _, .bl b, e => by cases e; exact ⟨.bl b, rfl⟩
  | _, _, _, .int i, e => by cases e; exact ⟨.int i, rfl⟩
  | _, _, _, .str s, e => by cases e; exact ⟨.str s, rfl⟩
  | _, .tup xs, p, .tup h r, e => by
    cases q : pdsOf xs with
    | none => simp [pdOf, q] at e
    | some ds =>
      simp [pdOf, q] at e; subst e
      obtain ⟨h1, h2⟩ := dps_of r q
      exact ⟨.tup (.of h) h1, by rw [PyData.plain]; exact h2⟩
  | _, .ctup xs, p, .ctup h r, e => by
    cases q : pdsOf xs with
    | none => simp [pdOf, q] at e
    | some ds =>
      simp [pdOf, q] at e; subst e
      obtain ⟨h1, h2⟩ := dps_of r q
      exact ⟨.tup h.sq h1, by rw [PyData.plain]; exact h2⟩
  | _, .ilst xs, p, .ilst h r, e => by
    cases q : pdsOf xs with
    | none => simp [pdOf, q] at e
    | some ds =>
      simp [pdOf, q] at e; subst e
      obtain ⟨h1, h2⟩ := dps_of r q
      exact ⟨.lst h.sq h1, by rw [PyData.plain]; exact h2⟩
  | _, _, _, .obj _, e => by cases e
  | _, _, _, .fn _, e => by cases e
  | _, _, _, .kd _, e => by cases e
theorem dps_of : ∀ {vs : List V} {ds : List PV} {ps : List PyData}, RepL g ρ H vs ds → pdsOf ds = some ps → DpAll g.K H vs ps ∧ PyData.plainAll ps = true
  | _, _, _, .nil, e => by cases e; exact ⟨.nil, rfl⟩
  | _, d :: ds, _, .cons h r, e => by
    cases q1 : pdOf d with
    | none => simp [pdsOf, q1] at e
    | some p =>
      cases q2 : pdsOf ds with
      | none => simp [pdsOf, q1, q2] at e
      | some ps =>
        simp [pdsOf, q1, q2] at e; subst e
        obtain ⟨a1, a2⟩ := dp_of h q1
        obtain ⟨b1, b2⟩ := dps_of r q2
        exact ⟨.cons a1 b1, by rw [PyData.plainAll, a2, b2]; rfl⟩
end
theorem dp_at (S : Sim g ρ st H) {v : V} {d : PV} {p : PyData} (h : RepV g ρ H v d) (e : pdAt st d = some p) : Dp g.K H v p ∧ p.plain = true := by
  have hh := h
  cases h with
  | @obj a n hn =>
    simp only [pdAt] at e
    cases q : st[n]? with
    | none => simp [q] at e
    | some ob =>
      cases ob with
      | lst xs =>
        simp only [q] at e
        cases q2 : pdsOf xs with
        | none => simp [q2] at e
        | some ds =>
          simp [q2] at e; subst e
          obtain ⟨u, e1, r1⟩ := S.at_ n a _ hn q
          obtain ⟨vs, rfl, r⟩ := HR.lst_inv r1
          obtain ⟨h1, h2⟩ := dps_of r q2
          exact ⟨.lst (.of e1) h1, by rw [PyData.plain]; exact h2⟩
      | _ => simp [q] at e
  | _ => exact dp_of hh (by simpa [pdAt] using e)
end

/-! ### OpR of data -/
section
variable {X : Cx}
def rEqP (K : PySem.W.Frag) (neg : Bool) : R2 := fun x y H Q => ∃ d e, Dp K H x d ∧ Dp K H y e ∧ d.plain = true ∧ e.plain = true ∧ min d.depth e.depth ≤ 64 ∧ Q (.bl (if neg then !PyData.eqv d e else PyData.eqv d e)) H
theorem op_eqP (hu : X.A.units + 64 < cLine) : OpR X (compareOp .Eq) (rEqP X.K false) := by
  intro pins s σ H x y v u Q I rx ry h
  obtain ⟨d, e, hd, he, sd, se, hm, q⟩ := h
  obtain ⟨as, r1⟩ := Dp.reads I d x v hd rx
  obtain ⟨bs, r2⟩ := Dp.reads I e y u he ry
  exact PySem.SeqAt.eq_plain r1 r2 sd se (by omega) ⟨.bl _, H, I, rfl, q⟩
theorem op_neP (hu : X.A.units + 64 < cLine) : OpR X (compareOp .NotEq) (rEqP X.K true) := by
  intro pins s σ H x y v u Q I rx ry h
  obtain ⟨d, e, hd, he, sd, se, hm, q⟩ := h
  obtain ⟨as, r1⟩ := Dp.reads I d x v hd rx
  obtain ⟨bs, r2⟩ := Dp.reads I e y u he ry
  exact PySem.SeqAt.ne_plain r1 r2 sd se (by omega) ⟨.bl _, H, I, rfl, q⟩
/-- x in a list or tuple of data -/
def rInP (K : PySem.W.Frag) (neg : Bool) : R2 := fun x y H Q => ∃ d es, Dp K H x d ∧ (Dp K H y (.list es) ∨ Dp K H y (.tuple es)) ∧ d.plain = true ∧ PyData.plainAll es = true ∧ min (PyData.depthAll es) d.depth ≤ 62 ∧
  Q (.bl (if neg then !es.any (fun y => PyData.eqv y d) else es.any (fun y => PyData.eqv y d))) H
theorem op_inP (hu : X.A.units + 64 < cLine) : OpR X (compareOp .In) (rInP X.K false) := by
  intro pins s σ H x y v u Q I rx ry h
  obtain ⟨d, es, hd, he, sd, se, hm, q⟩ := h
  obtain ⟨as, r1⟩ := Dp.reads I d x v hd rx
  rcases he with he | he
  · obtain ⟨bs, r2⟩ := Dp.reads I _ y u he ry
    exact PySem.SeqAt.in_list_data r2 r1 se sd (by omega) ⟨.bl _, H, I, rfl, q⟩
  · obtain ⟨bs, r2⟩ := Dp.reads I _ y u he ry
    exact PySem.SeqAt.in_tuple_data r2 r1 se sd (by omega) ⟨.bl _, H, I, rfl, q⟩
theorem op_notInP (hu : X.A.units + 64 < cLine) : OpR X (compareOp .NotIn) (rInP X.K true) := by
  intro pins s σ H x y v u Q I rx ry h
  obtain ⟨d, es, hd, he, sd, se, hm, q⟩ := h
  obtain ⟨as, r1⟩ := Dp.reads I d x v hd rx
  rcases he with he | he
  · obtain ⟨bs, r2⟩ := Dp.reads I _ y u he ry
    exact PySem.SeqAt.notIn_list_data r2 r1 se sd (by omega) ⟨.bl _, H, I, rfl, q⟩
  · obtain ⟨bs, r2⟩ := Dp.reads I _ y u he ry
    exact PySem.SeqAt.notIn_tuple_data r2 r1 se sd (by omega) ⟨.bl _, H, I, rfl, q⟩
/-- a < b and its like, of alike data -/
def rCmpP (K : PySem.W.Frag) (f : PyData → PyData → Bool) : R2 := fun x y H Q => ∃ d e, Dp K H x d ∧ Dp K H y e ∧ PySem.W.alike d e = true ∧ d ≠ .none ∧ min d.depth e.depth ≤ 64 ∧ Q (.bl (f d e)) H
theorem op_ltP (hu : X.A.units + 64 < cLine) : OpR X (compareOp .Lt) (rCmpP X.K fun d e => PySem.W.dataLt d e) := by
  intro pins s σ H x y v u Q I rx ry h
  obtain ⟨d, e, hd, he, ha, hn, hm, q⟩ := h
  obtain ⟨as, r1⟩ := Dp.reads I d x v hd rx
  obtain ⟨bs, r2⟩ := Dp.reads I e y u he ry
  exact PySem.W.lt_data r1 r2 ha hn (by omega) ⟨.bl _, H, I, rfl, q⟩
theorem op_gtP (hu : X.A.units + 64 < cLine) : OpR X (compareOp .Gt) (rCmpP X.K fun d e => PySem.W.dataLt e d) := by
  intro pins s σ H x y v u Q I rx ry h
  obtain ⟨d, e, hd, he, ha, hn, hm, q⟩ := h
  obtain ⟨as, r1⟩ := Dp.reads I d x v hd rx
  obtain ⟨bs, r2⟩ := Dp.reads I e y u he ry
  exact PySem.W.gt_data r1 r2 ha hn (by omega) ⟨.bl _, H, I, rfl, q⟩
theorem op_leP (hu : X.A.units + 64 < cLine) : OpR X (compareOp .LtE) (rCmpP X.K fun d e => !PySem.W.dataLt e d) := by
  intro pins s σ H x y v u Q I rx ry h
  obtain ⟨d, e, hd, he, ha, hn, hm, q⟩ := h
  obtain ⟨as, r1⟩ := Dp.reads I d x v hd rx
  obtain ⟨bs, r2⟩ := Dp.reads I e y u he ry
  exact PySem.W.le_data r1 r2 ha hn (by omega) ⟨.bl _, H, I, rfl, q⟩
theorem op_geP (hu : X.A.units + 64 < cLine) : OpR X (compareOp .GtE) (rCmpP X.K fun d e => !PySem.W.dataLt d e) := by
  intro pins s σ H x y v u Q I rx ry h
  obtain ⟨d, e, hd, he, ha, hn, hm, q⟩ := h
  obtain ⟨as, r1⟩ := Dp.reads I d x v hd rx
  obtain ⟨bs, r2⟩ := Dp.reads I e y u he ry
  exact PySem.W.ge_data r1 r2 ha hn (by omega) ⟨.bl _, H, I, rfl, q⟩
end

/-! ### plain operators -/
def opII (C : Int → Int → Prop) [∀ i j, Decidable (C i j)] (f : Int → Int → Int) : PV → PV → M PV
  | .int i, .int j => if C i j then pure (.int (f i j)) else M.fail
  | _, _ => M.fail
def opAdd : PV → PV → M PV
  | .int i, .int j => pure (.int (i + j))
  | .str a, .str b => if a.length + b.length ≤ sizeLine then pure (.str (a ++ b)) else M.fail
  | .tup a, .tup b => if a.length + b.length ≤ sizeLine then pure (.tup (a ++ b)) else M.fail
  | .obj m, .obj n => fun st => match st[m]?, st[n]? with
    | some (.lst a), some (.lst b) => if a.length + b.length ≤ sizeLine then newLst (a ++ b) st else .no
    | _, _ => .no
  | _, _ => M.fail
instance (i j : Int) : Decidable (CMul i j) := by unfold CMul; exact inferInstance
instance (i j : Int) : Decidable (CDiv i j) := by unfold CDiv; exact inferInstance
instance (i j : Int) : Decidable (CPow i j) := by unfold CPow; exact inferInstance
def opSub : PV → PV → M PV := opII (fun _ _ => True) fun i j => i - j
def opMul : PV → PV → M PV := opII CMul fun i j => i * j
def opFdiv : PV → PV → M PV := opII CDiv fun i j => i / j
def opMod : PV → PV → M PV := opII (fun _ j => 0 < j) fun i j => i % j
def opPow : PV → PV → M PV := opII CPow fun i j => i ^ j.toNat
def opShl : PV → PV → M PV := opII CPow fun i j => i * 2 ^ j.toNat
def opShr : PV → PV → M PV := opII (fun _ j => 0 ≤ j) fun i j => i / 2 ^ j.toNat
def opAnd : PV → PV → M PV := opII (fun _ _ => True) Builtin.bitAnd
def opOr : PV → PV → M PV := opII (fun _ _ => True) Builtin.bitOr
def opEqB (neg : Bool) (d e : PV) : M PV := fun st => match pdAt st d, pdAt st e with
  | some p, some q => if min p.depth q.depth ≤ 64 then .ok (.bl (if neg then !PyData.eqv p q else PyData.eqv p q)) st else .no
  | _, _ => .no
def notNone : PyData → Bool
  | .none => false
  | _ => true
def cmpOk (p q : PyData) : Bool := PySem.W.alike p q && notNone p && decide (min p.depth q.depth ≤ 64)
def opCmp (f : PyData → PyData → Bool) (d e : PV) : M PV := fun st => match pdAt st d, pdAt st e with
  | some p, some q => if cmpOk p q = true then .ok (.bl (f p q)) st else .no
  | _, _ => .no
def opLt : PV → PV → M PV := opCmp fun d e => PySem.W.dataLt d e
def opGt : PV → PV → M PV := opCmp fun d e => PySem.W.dataLt e d
def opLe : PV → PV → M PV := opCmp fun d e => !PySem.W.dataLt e d
def opGe : PV → PV → M PV := opCmp fun d e => !PySem.W.dataLt d e
/-- is None -/
def opIsN (neg : Bool) : PV → PV → M PV
  | d, .non => pure (.bl (if neg then !(decide (d = .non)) else decide (d = .non)))
  | _, _ => M.fail
/-- in a list or tuple of data -/
def opInB (neg : Bool) (d e : PV) : M PV := fun st => match d, e with
  | .str a, .str b => match a.cps.toList with
    | [c] => .ok (.bl (if neg then !decide (c ∈ b.cps.toList) else decide (c ∈ b.cps.toList))) st
    | _ => .no
  | d, e => match pdAt st d, pdAt st e with
    | some p, some (.list qs) => if min (PyData.depthAll qs) p.depth ≤ 62 then .ok (.bl (if neg then !qs.any (fun y => PyData.eqv y p) else qs.any (fun y => PyData.eqv y p))) st else .no
    | some p, some (.tuple qs) => if min (PyData.depthAll qs) p.depth ≤ 62 then .ok (.bl (if neg then !qs.any (fun y => PyData.eqv y p) else qs.any (fun y => PyData.eqv y p))) st else .no
    | _, _ => .no
def opNeg : PV → M PV
  | .int i => pure (.int (-i))
  | _ => M.fail

section
variable {X : Cx} {g : Gd} {W : XW}
theorem Post.pure {α : Type} {ρ : Rho} {H : Hp} {st : Store} {a : α} {Q : α → Store → Rho → Hp → Prop} (h : Post g W ρ H (.ok a st) Q) (S : Sim g ρ st H) : Q a st ρ H := h ρ H (Ext.refl _ _) S
theorem opS_II {C : Int → Int → Prop} [∀ i j, Decidable (C i j)] {f : Int → Int → Int} : OpS g W (opII C f) (rI C fun i j => .int (f i j)) := by
  intro ρ st H x y d e Q S hx hy h
  cases hx <;> cases hy <;> first | exact h.elim | skip
  rename_i i j
  by_cases hc : C i j
  · simp only [opII, if_pos hc] at h
    exact ⟨i, j, rfl, rfl, hc, (h.pure S) _ (.int _)⟩
  · simp only [opII, if_neg hc] at h
    exact h.elim
theorem opS_II0 {f : Int → Int → Int} : OpS g W (opII (fun _ _ => True) f) (rI0 fun i j => .int (f i j)) := fun S hx hy h => by
  obtain ⟨i, j, h1, h2, _, q⟩ := opS_II S hx hy h
  exact ⟨i, j, h1, h2, q⟩
/-- + on all kinds -/
def rAddAll (K : PySem.W.Frag) : R2 := fun x y H Q => (rI0 (fun i j => .int (i + j))) x y H Q ∨ (∃ i j, x = .str i ∧ y = .str j ∧ i.length + j.length ≤ sizeLine ∧ Q (.str (i ++ j)) H) ∨ rCatA K x y H Q ∨ rCat x y H Q
theorem op_addAll : OpR X (binaryOp .Add) (rAddAll X.K) := op_add.or (op_add_str.or (op_catA.or op_cat))
theorem opS_add (hK : g.K = X.K) : OpS g W opAdd (rAddAll X.K) := by
  intro ρ st H x y d e Q S hx hy h
  cases hx <;> cases hy <;> first | exact h.elim | skip
  case int.int i j => exact .inl ⟨i, j, rfl, rfl, (Post.pure h S) _ (.int _)⟩
  case str.str a b =>
    by_cases hz : a.length + b.length ≤ sizeLine
    · simp only [opAdd, if_pos hz] at h
      exact .inr (.inl ⟨a, b, rfl, rfl, hz, (Post.pure h S) _ (.str _)⟩)
    · simp only [opAdd, if_neg hz] at h; exact h.elim
  case tup.tup p vs xs hp hr p2 vs2 xs2 hp2 hr2 =>
    by_cases hz : xs.length + xs2.length ≤ sizeLine
    · simp only [opAdd, if_pos hz] at h
      refine .inr (.inr (.inl ⟨p, p2, vs, vs2, rfl, rfl, .of hp, .of hp2, by rw [hr.length, hr2.length]; exact hz, fun e => ?_, fun _ e => ?_, fun _ _ q hq => ?_⟩))
      · have : xs = [] := List.length_eq_zero_iff.mp (by rw [← hr.length, e]; rfl)
        subst this
        exact (Post.pure h S) _ (.tup hp2 hr2)
      · have : xs2 = [] := List.length_eq_zero_iff.mp (by rw [← hr2.length, e]; rfl)
        subst this
        rw [List.append_nil] at h
        exact (Post.pure h S) _ (.tup hp hr)
      · exact (h ρ _ (S.extFresh hq (.tup (vs ++ vs2))) (S.fresh hq _)) (.ref q) (.tup upd_same ((hr.append hr2).ext S (S.extFresh hq _)))
    · simp only [opAdd, if_neg hz] at h; exact h.elim
  case obj.obj a m hm b n hn =>
    simp only [opAdd] at h
    cases e1 : st[m]? with
    | none => rw [e1] at h; exact h.elim
    | some o1 =>
      cases e2 : st[n]? with
      | none => rw [e1, e2] at h; cases o1 <;> exact h.elim
      | some o2 =>
        rw [e1, e2] at h
        cases o1 <;> cases o2 <;> first | exact h.elim | skip
        rename_i xs ys
        by_cases hz : xs.length + ys.length ≤ sizeLine
        · simp only [if_pos hz, newLst] at h
          obtain ⟨u1, eu1, r1⟩ := S.at_ m a _ hm e1
          obtain ⟨u2, eu2, r2⟩ := S.at_ n b _ hn e2
          obtain ⟨vs, rfl, q1⟩ := HR.lst_inv r1
          obtain ⟨ws, rfl, q2⟩ := HR.lst_inv r2
          refine .inr (.inr (.inr ⟨a, b, vs, ws, rfl, rfl, eu1, eu2, by rw [q1.length, q2.length]; exact hz, fun p hp => ?_⟩))
          have E := S.extNew hp (.lst (vs ++ ws))
          refine (h _ _ E (S.new hp (show HR g _ _ (.lst (vs ++ ws)) (.lst (xs ++ ys)) from (q1.append q2).ext S E))) (.ref p) (.obj ?_)
          rw [← S.len]
          simp
        · simp only [if_neg hz] at h; exact h.elim
theorem opS_eq {neg : Bool} (hK : g.K = X.K) : OpS g W (opEqB neg) (rEqP X.K neg) := by
  intro ρ st H x y d e Q S hx hy h
  unfold opEqB at h
  cases e1 : pdAt st d with
  | none => rw [e1] at h; exact h.elim
  | some p =>
    cases e2 : pdAt st e with
    | none => rw [e1, e2] at h; exact h.elim
    | some q =>
      rw [e1, e2] at h
      by_cases hm : min p.depth q.depth ≤ 64
      · simp only [if_pos hm] at h
        obtain ⟨h1, h2⟩ := dp_at S hx e1
        obtain ⟨h3, h4⟩ := dp_at S hy e2
        rw [hK] at h1 h3
        exact ⟨p, q, h1, h3, h2, h4, hm, (Post.pure h S) _ (.bl _)⟩
      · simp only [if_neg hm] at h; exact h.elim
theorem opS_cmp {f : PyData → PyData → Bool} (hK : g.K = X.K) : OpS g W (opCmp f) (rCmpP X.K f) := by
  intro ρ st H x y d e Q S hx hy h
  unfold opCmp at h
  cases e1 : pdAt st d with
  | none => rw [e1] at h; exact h.elim
  | some p =>
    cases e2 : pdAt st e with
    | none => rw [e1, e2] at h; exact h.elim
    | some q =>
      rw [e1, e2] at h
      by_cases hm : cmpOk p q = true
      · simp only [if_pos hm] at h
        obtain ⟨h1, h2⟩ := dp_at S hx e1
        obtain ⟨h3, h4⟩ := dp_at S hy e2
        rw [hK] at h1 h3
        simp only [cmpOk, Bool.and_eq_true, decide_eq_true_eq] at hm
        refine ⟨p, q, h1, h3, hm.1.1, ?_, hm.2, (Post.pure h S) _ (.bl _)⟩
        intro e
        rw [e] at hm
        exact absurd hm.1.2 (by simp [notNone])
      · simp only [if_neg hm] at h; exact h.elim
theorem isN_of {ρ : Rho} {H : Hp} {x : V} {d : PV} (h : RepV g ρ H x d) : decide (x = .non) = decide (d = .non) := by
  cases h <;> simp
theorem opS_is : OpS g W (opIsN false) (fun x y H Q => y = .non ∧ Q (.bl (decide (x = .non))) H) := by
  intro ρ st H x y d e Q S hx hy h
  cases hy <;> first | exact h.elim | skip
  refine ⟨rfl, ?_⟩
  rw [isN_of hx]
  exact (Post.pure h S) _ (.bl _)
theorem opS_isnot : OpS g W (opIsN true) (fun x y H Q => y = .non ∧ Q (.bl (!decide (x = .non))) H) := by
  intro ρ st H x y d e Q S hx hy h
  cases hy <;> first | exact h.elim | skip
  refine ⟨rfl, ?_⟩
  rw [isN_of hx]
  exact (Post.pure h S) _ (.bl _)
/-- in, of all kinds but dicts -/
def rInAll (K : PySem.W.Frag) (neg : Bool) : R2 := fun x y H Q => rInP K neg x y H Q ∨ ∃ (c : Nat) (z : Str), x = .str ⟨#[c]⟩ ∧ y = .str z ∧ Q (.bl (if neg then !decide (c ∈ z.cps.toList) else decide (c ∈ z.cps.toList))) H
theorem op_inAll (hu : X.A.units + 64 < cLine) : OpR X (compareOp .In) (rInAll X.K false) := (op_inP hu).or op_in_sign
theorem op_notInAll (hu : X.A.units + 64 < cLine) : OpR X (compareOp .NotIn) (rInAll X.K true) := (op_notInP hu).or op_notIn_sign
theorem opS_in {neg : Bool} (hK : g.K = X.K) : OpS g W (opInB neg) (rInAll X.K neg) := by
  intro ρ st H x y d e Q S hx hy h
  have data : (match pdAt st d, pdAt st e with
    | some p, some (.list qs) => Post g W ρ H (if min (PyData.depthAll qs) p.depth ≤ 62 then .ok (.bl (if neg then !qs.any (fun y => PyData.eqv y p) else qs.any (fun y => PyData.eqv y p))) st else .no) (fun z _ ρ' H' => ∀ v, RepV g ρ' H' v z → Q v H')
    | some p, some (.tuple qs) => Post g W ρ H (if min (PyData.depthAll qs) p.depth ≤ 62 then .ok (.bl (if neg then !qs.any (fun y => PyData.eqv y p) else qs.any (fun y => PyData.eqv y p))) st else .no) (fun z _ ρ' H' => ∀ v, RepV g ρ' H' v z → Q v H')
    | _, _ => False) → rInAll X.K neg x y H Q := by
    intro h
    cases e1 : pdAt st d with
    | none => rw [e1] at h; exact h.elim
    | some p =>
      cases e2 : pdAt st e with
      | none => rw [e1, e2] at h; exact h.elim
      | some q =>
        rw [e1, e2] at h
        obtain ⟨h1, h2⟩ := dp_at S hx e1
        obtain ⟨h3, h4⟩ := dp_at S hy e2
        rw [hK] at h1 h3
        cases q with
        | list qs =>
          by_cases hm : min (PyData.depthAll qs) p.depth ≤ 62
          · simp only [if_pos hm] at h
            exact .inl ⟨p, qs, h1, .inl h3, h2, by rw [PyData.plain] at h4; exact h4, hm, (Post.pure h S) _ (.bl _)⟩
          · simp only [if_neg hm] at h; exact h.elim
        | tuple qs =>
          by_cases hm : min (PyData.depthAll qs) p.depth ≤ 62
          · simp only [if_pos hm] at h
            exact .inl ⟨p, qs, h1, .inr h3, h2, by rw [PyData.plain] at h4; exact h4, hm, (Post.pure h S) _ (.bl _)⟩
          · simp only [if_neg hm] at h; exact h.elim
        | _ => exact h.elim
  by_cases hs : ∃ a b, d = .str a ∧ e = .str b
  · obtain ⟨a, b, rfl, rfl⟩ := hs
    cases hx; cases hy
    simp only [opInB] at h
    obtain ⟨⟨l⟩⟩ := a
    cases l with
    | nil => exact h.elim
    | cons c r =>
      cases r with
      | nil => exact .inr ⟨c, b, rfl, rfl, (Post.pure h S) _ (.bl _)⟩
      | cons _ _ => exact h.elim
  · refine data ?_
    have key : opInB neg d e st = (match pdAt st d, pdAt st e with
      | some p, some (.list qs) => if min (PyData.depthAll qs) p.depth ≤ 62 then .ok (.bl (if neg then !qs.any (fun y => PyData.eqv y p) else qs.any (fun y => PyData.eqv y p))) st else .no
      | some p, some (.tuple qs) => if min (PyData.depthAll qs) p.depth ≤ 62 then .ok (.bl (if neg then !qs.any (fun y => PyData.eqv y p) else qs.any (fun y => PyData.eqv y p))) st else .no
      | _, _ => .no) := by
      unfold opInB
      split
      · rename_i a b
        exact absurd ⟨a, b, rfl, rfl⟩ hs
      · rfl
    rw [key] at h
    revert h
    split <;> exact id
theorem opS_neg {ρ : Rho} {st : Store} {H : Hp} {x : V} {d : PV} {Q : VK} (S : Sim g ρ st H) (hx : RepV g ρ H x d) (h : Post g W ρ H (opNeg d st) (fun z _ ρ' H' => ∀ v, RepV g ρ' H' v z → Q v H')) : (rU fun i => .int (-i)) x H Q := by
  cases hx <;> first | exact h.elim | exact ⟨_, rfl, (Post.pure h S) _ (.int _)⟩
end
end PyI

/-! PyI4: tests, conditional expressions, subscripts, slices, built-ins. -/
namespace PyI
open L2 PySem PySem.Spec PyProof.Rows

/-! ### keys, dicts -/
def keyOf : PV → Option Key
  | .int i => some (.inl i)
  | .str s => some (.inr s)
  | _ => none
def keysOf : List PV → Option (List Key)
  | [] => some []
  | x :: r => match keyOf x, keysOf r with
    | some k, some ks => some (k :: ks)
    | _, _ => none
section
variable {κ : Type} [DecidableEq κ]
def valP (kvs : List (κ × PV)) (k : κ) : Option PV := (kvs.find? fun kv => decide (kv.1 = k)).map (·.2)
def putP (kvs : List (κ × PV)) (k : κ) (v : PV) : List (κ × PV) :=
  if (kvs.any fun kv => decide (kv.1 = k)) = true then kvs.map (fun kv => if kv.1 = k then (kv.1, v) else kv) else kvs ++ [(k, v)]
def dropP (kvs : List (κ × PV)) (k : κ) : List (κ × PV) := kvs.filter fun kv => decide (kv.1 ≠ k)
/-- the entries of a dict against the store's -/
def RepD (g : Gd) (ρ : Rho) (H : Hp) (ws : List (κ × V)) (kvs : List (κ × PV)) : Prop := ws.map (·.1) = kvs.map (·.1) ∧ RepL g ρ H (ws.map (·.2)) (kvs.map (·.2))
variable {g : Gd} {ρ : Rho} {H : Hp}
theorem RepD.nil : RepD g ρ H ([] : List (κ × V)) [] := ⟨rfl, .nil⟩
theorem RepD.inv {w : κ × V} {ws : List (κ × V)} {kvs : List (κ × PV)} (h : RepD g ρ H (w :: ws) kvs) : ∃ p kvs', kvs = p :: kvs' ∧ w.1 = p.1 ∧ RepV g ρ H w.2 p.2 ∧ RepD g ρ H ws kvs' := by
  obtain ⟨h1, h2⟩ := h
  cases kvs with
  | nil => simp at h1
  | cons p kvs' =>
    simp only [List.map_cons, List.cons.injEq] at h1 h2
    cases h2 with
    | cons a b => exact ⟨p, kvs', rfl, h1.1, a, h1.2, b⟩
theorem RepD.cons {w : κ × V} {ws : List (κ × V)} {p : κ × PV} {kvs : List (κ × PV)} (h1 : w.1 = p.1) (h2 : RepV g ρ H w.2 p.2) (h : RepD g ρ H ws kvs) : RepD g ρ H (w :: ws) (p :: kvs) :=
  ⟨by simp [h1, h.1], .cons h2 h.2⟩
theorem RepD.length {ws : List (κ × V)} {kvs : List (κ × PV)} (h : RepD g ρ H ws kvs) : ws.length = kvs.length := by
  have := congrArg List.length h.1
  simpa using this
theorem RepD.val {k : κ} : ∀ {ws : List (κ × V)} {kvs : List (κ × PV)}, RepD g ρ H ws kvs → (∀ d, valP kvs k = some d → ∃ v, valV ws k = some v ∧ RepV g ρ H v d) ∧ (valP kvs k = none → valV ws k = none)
  | [], kvs, h => by
    have : kvs = [] := List.length_eq_zero_iff.mp (by rw [← h.length]; rfl)
    subst this
    exact ⟨fun d e => by simp [valP] at e, fun _ => rfl⟩
  | w :: ws, kvs, h => by
    obtain ⟨p, kvs', rfl, e1, r, h'⟩ := h.inv
    obtain ⟨i1, i2⟩ := RepD.val (k := k) h'
    by_cases hk : p.1 = k
    · refine ⟨fun d e => ⟨w.2, by rw [valV_pos (by rw [e1]; exact hk)], ?_⟩, fun e => ?_⟩
      · simp [valP, List.find?_cons, hk] at e
        rw [← e]; exact r
      · simp [valP, List.find?_cons, hk] at e
    · have e2 : valP (p :: kvs') k = valP kvs' k := by simp [valP, List.find?_cons, hk]
      rw [e2, valV_neg (by rw [e1]; exact hk)]
      exact ⟨i1, i2⟩
theorem RepD.any {k : κ} {ws : List (κ × V)} {kvs : List (κ × PV)} (h : RepD g ρ H ws kvs) : (ws.any fun kv => decide (kv.1 = k)) = kvs.any fun kv => decide (kv.1 = k) := by
  have e1 : (ws.any fun kv => decide (kv.1 = k)) = (ws.map (·.1)).any fun z => decide (z = k) := by rw [List.any_map]; rfl
  have e2 : (kvs.any fun kv => decide (kv.1 = k)) = (kvs.map (·.1)).any fun z => decide (z = k) := by rw [List.any_map]; rfl
  rw [e1, e2, h.1]
theorem RepD.upd {k : κ} {v : V} {d : PV} (r : RepV g ρ H v d) : ∀ {ws : List (κ × V)} {kvs : List (κ × PV)}, RepD g ρ H ws kvs →
    RepD g ρ H (ws.map fun kv => if kv.1 = k then (kv.1, v) else kv) (kvs.map fun kv => if kv.1 = k then (kv.1, d) else kv)
  | [], kvs, h => by
    have : kvs = [] := List.length_eq_zero_iff.mp (by rw [← h.length]; rfl)
    subst this
    exact .nil
  | w :: ws, kvs, h => by
    obtain ⟨p, kvs', rfl, e1, r', h'⟩ := h.inv
    simp only [List.map_cons]
    refine .cons ?_ ?_ (RepD.upd r h')
    · rw [e1]; split <;> first | rfl | exact e1
    · rw [e1]; split <;> assumption
theorem RepD.append {ws us : List (κ × V)} {kvs lvs : List (κ × PV)} (h : RepD g ρ H ws kvs) (h' : RepD g ρ H us lvs) : RepD g ρ H (ws ++ us) (kvs ++ lvs) :=
  ⟨by rw [List.map_append, List.map_append, h.1, h'.1], by rw [List.map_append, List.map_append]; exact h.2.append h'.2⟩
theorem RepD.put {k : κ} {v : V} {d : PV} (r : RepV g ρ H v d) {ws : List (κ × V)} {kvs : List (κ × PV)} (h : RepD g ρ H ws kvs) : RepD g ρ H (putK ws k v) (putP kvs k d) := by
  unfold putK putP
  rw [h.any]
  split
  · exact h.upd r
  · exact h.append (.cons rfl r .nil)
theorem RepD.drop {k : κ} : ∀ {ws : List (κ × V)} {kvs : List (κ × PV)}, RepD g ρ H ws kvs → RepD g ρ H (dropK ws k) (dropP kvs k)
  | [], kvs, h => by
    have : kvs = [] := List.length_eq_zero_iff.mp (by rw [← h.length]; rfl)
    subst this
    exact .nil
  | w :: ws, kvs, h => by
    obtain ⟨p, kvs', rfl, e1, r', h'⟩ := h.inv
    have ih := RepD.drop (k := k) h'
    unfold dropK dropP at *
    rw [List.filter_cons, List.filter_cons, e1]
    split
    · exact .cons e1 r' ih
    · exact ih
end
section
variable {g : Gd} {ρ : Rho} {H : Hp}
theorem key_of {v : V} {d : PV} {k : Key} (h : RepV g ρ H v d) (e : keyOf d = some k) : v = kV k := by
  cases h <;> first | (cases e; rfl) | exact nomatch e
theorem keys_of : ∀ {vs : List V} {ds : List PV} {ks : List Key}, RepL g ρ H vs ds → keysOf ds = some ks → vs = ks.map kV
  | _, _, _, .nil, e => by cases e; rfl
  | _, d :: ds, ks, .cons h r, e => by
    cases q1 : keyOf d with
    | none => simp [keysOf, q1] at e
    | some k =>
      cases q2 : keysOf ds with
      | none => simp [keysOf, q1, q2] at e
      | some ks' =>
        simp [keysOf, q1, q2] at e; subst e
        rw [List.map_cons, key_of h q1, keys_of r q2]
end
/-- what a store's dict holds at a key; none: no such key may be asked -/
def dGet (st : Store) (n : Nat) (y : PV) : Option (Option PV) := match st[n]? with
  | some (.dK kvs) => (keyOf y).map fun k => valP kvs k
  | some (.dT kvs) => match y with
    | .tup xs => (keysOf xs).map fun k => valP kvs k
    | _ => none
  | _ => none
theorem dget_of {g : Gd} {ρ : Rho} {H : Hp} {st : Store} {n : Nat} {a : Addr} {y : V} {d : PV} {o : Option PV} (S : Sim g ρ st H) (hn : ρ[n]? = some a) (hy : RepV g ρ H y d) (e : dGet st n d = some o) :
    ∃ r, DGet H a y r ∧ (∀ z, o = some z → ∃ v, r = some v ∧ RepV g ρ H v z) ∧ (o = none → r = none) := by
  unfold dGet at e
  cases q : st[n]? with
  | none => rw [q] at e; cases e
  | some ob =>
    rw [q] at e
    obtain ⟨u, eu, r⟩ := S.at_ n a ob hn q
    cases ob with
    | dK kvs =>
      obtain ⟨ws, rfl, h1⟩ := HR.dK_inv r
      cases qk : keyOf d with
      | none => simp [qk] at e
      | some k =>
        simp [qk] at e; subst e
        rw [key_of hy qk]
        have hD : RepD g ρ H ws kvs := h1
        exact ⟨_, .k eu, fun z hz => hD.val.1 z hz, fun hz => hD.val.2 hz⟩
    | dT kvs =>
      obtain ⟨ws, rfl, h1⟩ := HR.dT_inv r
      cases hy with
      | @tup b vs xs hb hr =>
        cases qk : keysOf xs with
        | none => simp [qk] at e
        | some k =>
          simp [qk] at e; subst e
          have hD : RepD g ρ H ws kvs := h1
          rw [keys_of hr qk] at hb
          exact ⟨_, .t eu hb, fun z hz => hD.val.1 z hz, fun hz => hD.val.2 hz⟩
      | _ => simp at e
    | _ => simp at e

/-! ### tests, conditional expressions -/
def plainTest : Expr → Bool
  | .UnaryOp .Not _ _ => false
  | .BoolOp _ _ _ => false
  | .IfExp _ _ _ _ => false
  | .Compare _ _ _ _ => false
  | _ => true
theorem isTrue_plain_of {e : Expr} (h : plainTest e = true) (env : Env) : ∀ whole, isTrue e env whole = (do let v ← whole; standAt e.pos; holding [v] (truthy v)) := by
  intro whole
  cases e with
  | UnaryOp op a pos => cases op <;> first | rfl | exact absurd h (by simp [plainTest])
  | BoolOp _ _ _ => exact absurd h (by simp [plainTest])
  | IfExp _ _ _ _ => exact absurd h (by simp [plainTest])
  | Compare _ _ _ _ => exact absurd h (by simp [plainTest])
  | _ => rfl
theorem truth_of {g : Gd} {W : XW} {ρ : Rho} {H : Hp} {st : Store} {v : V} {d : PV} {Q : Bool → Store → Rho → Hp → Prop} (S : Sim g ρ st H) (hv : RepV g ρ H v d) (h : Post g W ρ H (truth d st) Q) : ∃ k, TruV g.K v H k ∧ Q k st ρ H := by
  cases hv with
  | non => exact ⟨false, rfl, Post.pure h S⟩
  | bl b => exact ⟨b, rfl, Post.pure h S⟩
  | int i => exact ⟨_, rfl, Post.pure h S⟩
  | str s =>
    by_cases hz : s.length ≤ sizeLine
    · simp only [truth, if_pos hz] at h
      have e : ((s.length : Int) != 0) = (s.length != 0) := by cases s.length <;> rfl
      exact ⟨_, ⟨hz, rfl⟩, by rw [e]; exact Post.pure h S⟩
    · simp only [truth, if_neg hz] at h; exact h.elim
  | @tup a vs xs hH r =>
    refine ⟨!xs.isEmpty, .inr (.inl ⟨vs, .of hH, ?_⟩), Post.pure h S⟩
    cases r <;> rfl
  | @ctup a vs xs hH r =>
    refine ⟨!xs.isEmpty, .inr (.inl ⟨vs, hH.sq, ?_⟩), Post.pure h S⟩
    cases r <;> rfl
  | @ilst a vs xs hH r =>
    refine ⟨!xs.isEmpty, .inl ⟨vs, hH.sq, ?_⟩, Post.pure h S⟩
    cases r <;> rfl
  | @obj a n hn =>
    simp only [truth] at h
    cases q : st[n]? with
    | none => rw [q] at h; exact h.elim
    | some ob =>
      rw [q] at h
      obtain ⟨u, eu, r⟩ := S.at_ n a ob hn q
      cases ob with
      | lst xs =>
        obtain ⟨vs, rfl, r⟩ := HR.lst_inv r
        refine ⟨!xs.isEmpty, .inl ⟨vs, .of eu, ?_⟩, Post.pure h S⟩
        cases r <;> rfl
      | dK kvs =>
        obtain ⟨ws, rfl, r⟩ := HR.dK_inv r
        refine ⟨!kvs.isEmpty, .inr (.inr ⟨ws, eu, ?_⟩), Post.pure h S⟩
        have hl : ws.length = kvs.length := RepD.length (g := g) (ρ := ρ) (H := H) r
        cases ws <;> cases kvs <;> first | rfl | (simp at hl)
      | _ => exact h.elim
  | fn x => exact h.elim
  | kd x => exact h.elim
section
variable {X : Cx} {g : Gd} {W : XW} {a b c : Expr} {fa fb fc : Dn} {ta tb : Tn} {pos : Pos}
theorem s_test (hK : g.K = X.K) (ha : PE X a (tI g W fa)) (h : plainTest a = true) : PT X a (tT g W (cTruth fa)) :=
  (pt_truth ha (isTrue_plain_of h _)).pimp fun σ H Q ⟨ρ, env, st, E, S, h⟩ => ⟨ρ, env, st, E, S, h.bind.mono fun d st1 ρ1 H1 x1 S1 h1 v hv => by
    obtain ⟨k, hk, q⟩ := truth_of S1 hv h1
    exact ⟨k, hK ▸ hk, q⟩⟩
theorem s_not (ha : PT X a (tT g W ta)) : PT X (.UnaryOp .Not a pos) (tT g W (cNotT ta)) :=
  (pt_not ha).pimp fun σ H Q ⟨ρ, env, st, E, S, h⟩ => ⟨ρ, env, st, E, S, h.bind.mono fun d st1 ρ1 H1 x1 S1 h1 => Post.pure h1 S1⟩
/-- t1 and t2 and .. -/
def cAnds : List Tn → Tn
  | [] => fun _ => M.fail
  | [t] => t
  | t :: u :: r => cAndT t (cAnds (u :: r))
def cOrs : List Tn → Tn
  | [] => fun _ => M.fail
  | [t] => t
  | t :: u :: r => cOrT t (cOrs (u :: r))
structure PTl (X : Cx) (g : Gd) (W : XW) (es : List Expr) (ts : List Tn) : Prop where
  all : es.length = ts.length ∧ ∀ (i : Nat) (e : Expr) (t : Tn), es[i]? = some e → ts[i]? = some t → PT X e (tT g W t)
theorem PTl.tail {e : Expr} {es : List Expr} {t : Tn} {ts : List Tn} (h : PTl X g W (e :: es) (t :: ts)) : PT X e (tT g W t) ∧ PTl X g W es ts :=
  ⟨h.all.2 0 e t rfl rfl, ⟨by have := h.all.1; simpa using this, fun i e' t' h1 h2 => h.all.2 (i + 1) e' t' (by simpa using h1) (by simpa using h2)⟩⟩
theorem s_and : ∀ {es : List Expr} {ts : List Tn}, PTl X g W es ts → es ≠ [] → PW X (.BoolOp .And es pos) (tT g W (cAnds ts))
  | [], _, _, h => absurd rfl h
  | [e], ts, h, _ => by
    cases ts with
    | nil => have := h.all.1; simp at this
    | cons t ts =>
      cases ts with
      | nil => exact pw_and1 h.tail.1
      | cons _ _ => have := h.all.1; simp at this
  | e :: e' :: es, ts, h, _ => by
    cases ts with
    | nil => have := h.all.1; simp at this
    | cons t ts =>
      cases ts with
      | nil => have := h.all.1; simp at this
      | cons t' ts =>
        have ih := s_and h.tail.2 (by simp)
        refine (pw_and h.tail.1 ih).pimp fun σ H Q ⟨ρ, env, st, E, S, h⟩ => ⟨ρ, env, st, E, S, h.bind.mono fun d st1 ρ1 H1 x1 S1 h1 => ?_⟩
        cases d with
        | true => exact iteT ⟨ρ1, env, st1, E.ext S x1, S1, h1⟩
        | false => exact iteF (Post.pure h1 S1)
theorem s_or : ∀ {es : List Expr} {ts : List Tn}, PTl X g W es ts → es ≠ [] → PW X (.BoolOp .Or es pos) (tT g W (cOrs ts))
  | [], _, _, h => absurd rfl h
  | [e], ts, h, _ => by
    cases ts with
    | nil => have := h.all.1; simp at this
    | cons t ts =>
      cases ts with
      | nil => exact pw_or1 h.tail.1
      | cons _ _ => have := h.all.1; simp at this
  | e :: e' :: es, ts, h, _ => by
    cases ts with
    | nil => have := h.all.1; simp at this
    | cons t ts =>
      cases ts with
      | nil => have := h.all.1; simp at this
      | cons t' ts =>
        have ih := s_or h.tail.2 (by simp)
        refine (pw_or h.tail.1 ih).pimp fun σ H Q ⟨ρ, env, st, E, S, h⟩ => ⟨ρ, env, st, E, S, h.bind.mono fun d st1 ρ1 H1 x1 S1 h1 => ?_⟩
        cases d with
        | true => exact iteT (Post.pure h1 S1)
        | false => exact iteF ⟨ρ1, env, st1, E.ext S x1, S1, h1⟩
theorem s_ifExp (hc : PT X c (tT g W ta)) (ha : PE X a (tI g W fa)) (hb : PE X b (tI g W fb)) : PE X (.IfExp c a b pos) (tI g W (cIf ta fa fb)) :=
  (pe_ifExp hc ha hb).pimp fun σ H Q ⟨ρ, env, st, E, S, h⟩ => ⟨ρ, env, st, E, S, h.bind.mono fun d st1 ρ1 H1 x1 S1 h1 => by
    cases d with
    | true => exact iteT ⟨ρ1, env, st1, E.ext S x1, S1, h1⟩
    | false => exact iteF ⟨ρ1, env, st1, E.ext S x1, S1, h1⟩⟩
/-- and, or, not as values -/
def cAndsV : List Dn → Dn
  | [] => fun _ => M.fail
  | [t] => t
  | t :: u :: r => cAndV t (cAndsV (u :: r))
def cOrsV : List Dn → Dn
  | [] => fun _ => M.fail
  | [t] => t
  | t :: u :: r => cOrV t (cOrsV (u :: r))
structure PEl (X : Cx) (g : Gd) (W : XW) (es : List Expr) (ts : List Dn) : Prop where
  all : es.length = ts.length ∧ ∀ (i : Nat) (e : Expr) (t : Dn), es[i]? = some e → ts[i]? = some t → PE X e (tI g W t)
theorem PEl.tail {e : Expr} {es : List Expr} {t : Dn} {ts : List Dn} (h : PEl X g W (e :: es) (t :: ts)) : PE X e (tI g W t) ∧ PEl X g W es ts :=
  ⟨h.all.2 0 e t rfl rfl, ⟨by have := h.all.1; simpa using this, fun i e' t' h1 h2 => h.all.2 (i + 1) e' t' (by simpa using h1) (by simpa using h2)⟩⟩
theorem s_andV (hK : g.K = X.K) : ∀ {es : List Expr} {ts : List Dn}, PEl X g W es ts → es ≠ [] → PE X (.BoolOp .And es pos) (tI g W (cAndsV ts))
  | [], _, _, h => absurd rfl h
  | [e], ts, h, _ => by
    cases ts with
    | nil => have := h.all.1; simp at this
    | cons t ts =>
      cases ts with
      | nil => exact pe_one h.tail.1
      | cons _ _ => have := h.all.1; simp at this
  | e :: e' :: es, ts, h, _ => by
    cases ts with
    | nil => have := h.all.1; simp at this
    | cons t ts =>
      cases ts with
      | nil => have := h.all.1; simp at this
      | cons t' ts =>
        have ih := s_andV hK h.tail.2 (by simp)
        refine (pe_andT h.tail.1 ih).pimp fun σ H Q ⟨ρ, env, st, E, S, h⟩ => ⟨ρ, env, st, E, S, h.bind.mono fun d st1 ρ1 H1 x1 S1 h1 v hv => ?_⟩
        obtain ⟨k, hk, q⟩ := truth_of S1 hv h1.bind
        refine ⟨k, hK ▸ hk, ?_⟩
        cases k with
        | true => exact iteT ⟨ρ1, env, st1, E.ext S x1, S1, q⟩
        | false => exact iteF ((Post.pure q S1) v hv)
theorem s_orV (hK : g.K = X.K) : ∀ {es : List Expr} {ts : List Dn}, PEl X g W es ts → es ≠ [] → PE X (.BoolOp .Or es pos) (tI g W (cOrsV ts))
  | [], _, _, h => absurd rfl h
  | [e], ts, h, _ => by
    cases ts with
    | nil => have := h.all.1; simp at this
    | cons t ts =>
      cases ts with
      | nil => exact pe_one h.tail.1
      | cons _ _ => have := h.all.1; simp at this
  | e :: e' :: es, ts, h, _ => by
    cases ts with
    | nil => have := h.all.1; simp at this
    | cons t ts =>
      cases ts with
      | nil => have := h.all.1; simp at this
      | cons t' ts =>
        have ih := s_orV hK h.tail.2 (by simp)
        refine (pe_orT h.tail.1 ih).pimp fun σ H Q ⟨ρ, env, st, E, S, h⟩ => ⟨ρ, env, st, E, S, h.bind.mono fun d st1 ρ1 H1 x1 S1 h1 v hv => ?_⟩
        obtain ⟨k, hk, q⟩ := truth_of S1 hv h1.bind
        refine ⟨k, hK ▸ hk, ?_⟩
        cases k with
        | true => exact iteT ((Post.pure q S1) v hv)
        | false => exact iteF ⟨ρ1, env, st1, E.ext S x1, S1, q⟩
def cNotV (a : Dn) : Dn := fun env => do
  let d ← a env
  let c ← truth d
  pure (.bl (!c))
theorem s_notV (hK : g.K = X.K) (ha : PE X a (tI g W fa)) : PE X (.UnaryOp .Not a pos) (tI g W (cNotV fa)) :=
  (pe_notT ha).pimp fun σ H Q ⟨ρ, env, st, E, S, h⟩ => ⟨ρ, env, st, E, S, h.bind.mono fun d st1 ρ1 H1 x1 S1 h1 v hv => by
    obtain ⟨k, hk, q⟩ := truth_of S1 hv h1.bind
    exact ⟨k, hK ▸ hk, (Post.pure q S1) _ (.bl _)⟩⟩

/-! ### subscripts -/
def getItemP : PV → PV → M PV
  | .tup xs, .int i => fun st => match atI xs i with
    | some d => .ok d st
    | none => .no
  | .ctup xs, .int i => fun st => match atI xs i with
    | some d => .ok d st
    | none => .no
  | .ilst xs, .int i => fun st => match atI xs i with
    | some d => .ok d st
    | none => .no
  | .str s, .int i => fun st => if s.length ≤ sizeLine then (match atI s.cps.toList i with
    | some c => .ok (.str ⟨#[c]⟩) st
    | none => .no) else .no
  | .obj n, y => fun st => match st[n]? with
    | some (.lst xs) => (match y with
      | .int i => (match atI xs i with
        | some d => .ok d st
        | none => .no)
      | _ => .no)
    | _ => match dGet st n y with
      | some (some d) => .ok d st
      | _ => .no
  | _, _ => M.fail
theorem RepL.atI {ρ : Rho} {H : Hp} {vs : List V} {xs : List PV} {i : Int} {d : PV} (h : RepL g ρ H vs xs) (e : L2.atI xs i = some d) : ∃ v, L2.atI vs i = some v ∧ RepV g ρ H v d := by
  unfold L2.atI at e ⊢
  rw [h.length]
  cases q : ixN xs.length i with
  | none => rw [q] at e; cases e
  | some j =>
    rw [q] at e
    exact h.get e
def plainIxB : Expr → Bool
  | .Slice _ _ none _ => false
  | _ => true
theorem plainIx_of {e : Expr} (h : plainIxB e = true) : PlainIx e := by
  intro o i
  cases e with
  | Slice lo hi st pos => cases st with
    | none => exact absurd h (by simp [plainIxB])
    | some _ => rfl
  | _ => rfl
theorem s_sub (hK : g.K = X.K) (hu : X.A.units + 1 < cLine) (ha : PE X a (tI g W fa)) (hb : PE X b (tI g W fb)) (hs : plainIxB b = true) : PE X (.Subscript a b pos) (tI g W (cBin getItemP fa fb)) := by
  refine ((pe_ix ix_seq ha hb (plainIx_of hs)).por (pe_dget hu ha hb (plainIx_of hs))).pimp fun σ H Q ⟨ρ, env, st, E, S, h⟩ => ?_
  unfold cBin at h
  -- what is got tells the way
  by_cases hd : ∃ d e st1 st2 n, fa env st = .ok d st1 ∧ fb env st1 = .ok e st2 ∧ d = .obj n ∧ ∀ xs, st2[n]? ≠ some (.lst xs)
  · obtain ⟨d, e, st1, st2, n, q1, q2, rfl, q3⟩ := hd
    refine .inr ⟨ρ, env, st, E, S, h.bind.monoE fun d' st1' ρ1 H1 z1 x1 S1 h1 v hv => ?_⟩
    rw [q1] at z1; cases z1
    refine ⟨ρ1, env, st1, E.ext S x1, S1, h1.bind.monoE fun e' st2' ρ2 H2 z2 x2 S2 h2 y hy => ?_⟩
    rw [q2] at z2; cases z2
    cases hv with
    | obj hn =>
      have hn2 := pre_get x2.pre hn
      have h3 : Post g W ρ2 H2 (match dGet st2 n e with | some (some d) => Res.ok d st2 | _ => .no) (fun d x ρ' H' => ∀ (v : V), RepV g ρ' H' v d → Q v H') := by
        simp only [getItemP] at h2
        cases hx : st2[n]? with
        | none => first | exact h2 | (rw [hx] at h2; exact h2)
        | some ob =>
          try rw [hx] at h2
          cases ob with
          | lst xs => exact absurd hx (q3 xs)
          | _ => exact h2
      revert h3
      split
      · rename_i d hd
        intro h3
        obtain ⟨r, g1, g2, _⟩ := dget_of S2 hn2 hy hd
        obtain ⟨w, rfl, hw⟩ := g2 d rfl
        exact ⟨_, w, rfl, g1, (Post.pure h3 S2) w hw⟩
      · exact fun h3 => h3.elim
  · refine .inl ⟨ρ, env, st, E, S, h.bind.monoE fun d st1 ρ1 H1 z1 x1 S1 h1 v hv => ?_⟩
    refine ⟨ρ1, env, st1, E.ext S x1, S1, h1.bind.monoE fun e st2 ρ2 H2 z2 x2 S2 h2 y hy => ?_⟩
    have hv2 := hv.ext S1 x2
    have seqc : ∀ {vs : List V} {xs : List PV} {i : Int}, RepL g ρ2 H2 vs xs → Post g W ρ2 H2 (match L2.atI xs i with | some d => Res.ok d st2 | none => .no) (fun d x ρ' H' => ∀ (v : V), RepV g ρ' H' v d → Q v H') →
        ∃ w, L2.atI vs i = some w ∧ Q w H2 := by
      intro vs xs i hr h3
      cases q : L2.atI xs i with
      | none => rw [q] at h3; exact h3.elim
      | some d =>
        rw [q] at h3
        obtain ⟨w, e1, hw⟩ := hr.atI q
        exact ⟨w, e1, (Post.pure h3 S2) w hw⟩
    cases hv2 with
    | @tup p vs xs hp hr =>
      cases hy <;> first | exact h2.elim | skip
      obtain ⟨w, e1, q⟩ := seqc hr h2
      exact .inr (.inl ⟨p, vs, _, w, rfl, rfl, .of hp, e1, q⟩)
    | @ctup p vs xs hp hr =>
      cases hy <;> first | exact h2.elim | skip
      obtain ⟨w, e1, q⟩ := seqc hr h2
      exact .inr (.inl ⟨p, vs, _, w, rfl, rfl, hK ▸ hp.sq, e1, q⟩)
    | @ilst p vs xs hp hr =>
      cases hy <;> first | exact h2.elim | skip
      obtain ⟨w, e1, q⟩ := seqc hr h2
      exact .inl ⟨p, vs, _, w, rfl, rfl, hK ▸ hp.sq, e1, q⟩
    | str s =>
      cases hy <;> first | exact h2.elim | skip
      rename_i i
      simp only [getItemP] at h2
      by_cases hz : s.length ≤ sizeLine
      · rw [if_pos hz] at h2
        cases q : L2.atI s.cps.toList i with
        | none => rw [q] at h2; exact h2.elim
        | some c =>
          rw [q] at h2
          exact .inr (.inr ⟨s, i, c, rfl, rfl, hz, q, (Post.pure h2 S2) _ (.str _)⟩)
      · rw [if_neg hz] at h2; exact h2.elim
    | @obj p n hn =>
      by_cases hx : ∃ xs, st2[n]? = some (.lst xs)
      · obtain ⟨xs, hx⟩ := hx
        obtain ⟨u, eu, r⟩ := S2.at_ n p _ hn hx
        obtain ⟨vs, rfl, r⟩ := HR.lst_inv r
        simp only [getItemP, hx] at h2
        cases hy <;> first | exact h2.elim | skip
        obtain ⟨w, e1, q⟩ := seqc r h2
        exact .inl ⟨p, vs, _, w, rfl, rfl, .of eu, e1, q⟩
      · exact absurd ⟨.obj n, e, st1, st2, n, z1, z2, rfl, fun xs hz => hx ⟨xs, hz⟩⟩ hd
    | _ => exact h2.elim
end
end PyI

/-! PyI5: built-ins by name, lists that nobody else holds, slices, methods. -/
namespace PyI
open L2 PySem PySem.Spec PyProof.Rows

def noStar (es : List Expr) : Bool := es.all fun e => !starred e
theorem star_all : ∀ {es : List Expr} {env : Env} {pos : Pos}, noStar es = true → (backTo pos (starEach es env)).any (·.1) = false ∧ (backTo pos (starEach es env)).all (fun x => !x.1) = true
  | [], _, _, _ => ⟨rfl, rfl⟩
  | e :: es, env, pos, h => by
    have h' : (!starred e) = true ∧ noStar es = true := by simpa [noStar] using h
    have h1 : starred e = false := by simpa using h'.1
    obtain ⟨i1, i2⟩ := star_all (es := es) (env := env) (pos := pos) h'.2
    rw [star_plain h1]
    unfold backTo at *
    rw [List.map_cons]
    simp only [List.any_cons, List.all_cons, i1, i2]
    exact ⟨rfl, rfl⟩
theorem few_of {es : List Expr} {env : Env} {pos : Pos} (h : noStar es = true) (hl : es.length < 30) :
    ((backTo pos (starEach es env)).all (fun x => !x.1) && (backToKw pos (keywordEach [] env)).all (fun x => x.1.isSome)
      && decide (es.length + ([] : List Keyword).length + (if ([] : List Keyword).isEmpty then 0 else 1) < 30)) = true := by
  rw [(star_all h).2]
  have : decide (es.length + ([] : List Keyword).length + (if ([] : List Keyword).isEmpty then 0 else 1) < 30) = true := by
    simp
    exact hl
  rw [this]
  rfl

/-! ### calls of built-ins -/
def CallS (g : Gd) (W : XW) (F : List PV → M PV) (r : List V → Hp → VK → Prop) : Prop := ∀ {ρ : Rho} {st : Store} {H : Hp} {vs : List V} {xs : List PV} {Q : VK}, Sim g ρ st H → RepL g ρ H vs xs →
  Post g W ρ H (F xs st) (fun z _ ρ' H' => ∀ v, RepV g ρ' H' v z → Q v H') → r vs H Q
/-- .. of one list that nobody else holds -/
def LstS (g : Gd) (W : XW) (F : List PV → M PV) (r : List V → Hp → VK → Prop) : Prop := ∀ {ρ : Rho} {st : Store} {H : Hp} {a : Addr} {vs : List V} {xs : List PV} {Q : VK}, Sim g ρ st H → a ∉ ρ → H a = some (.lst vs) → RepL g ρ H vs xs →
  Post g W ρ H (F xs st) (fun z _ ρ' H' => ∀ v, RepV g ρ' H' v z → Q v H') → r [.ref a] H Q
def cApp (F : List PV → M PV) (fs : Ln) : Dn := fun env => do
  let xs ← fs env
  F xs
section
variable {X : Cx} {g : Gd} {W : XW} {e a b : Expr} {es : List Expr} {f fa : Dn} {fs : Ln} {F : List PV → M PV} {r : List V → Hp → VK → Prop} {x : Str} {p pos : Pos} {bid : String}
theorem tCB_of (hF : CallS g W F r) {σ : L2.St} {H : Hp} {Q : VK} (h : tI g W (cApp F fs) σ H Q) : tCB r (tA g W fs) σ H Q := by
  obtain ⟨ρ, env, st, E, S, h⟩ := h
  exact ⟨ρ, env, st, E, S, h.bind.mono fun xs st1 ρ1 H1 x1 S1 h1 vs hv => hF S1 hv h1⟩
theorem s_callB (hc : CallR X (.builtin bid) r) (hF : CallS g W F r) (hg : Gl X x) (hm : X.mg x = none) (hv : bootBuiltins x = some (.builtin bid)) (ha : PA X (e :: es) (tA g W fs)) (hn : x ≠ "__name__") (hdb : (x == ("__debug__" : Str)) = false) (hs : noStar (e :: es) = true) :
    PE X (.Call (.Name x p) (e :: es) [] pos) (tI g W (cApp F fs)) := by
  have h' : (!starred e) = true ∧ noStar es = true := by simpa [noStar] using hs
  exact (pe_callB hc hg hm hv ha hn hdb (star_plain (by simpa using h'.1) _ _) (star_all h'.2).1).pimp fun _ _ _ h => tCB_of hF h
theorem s_callTy {T : String} (hc : CallR X (.type T) r) (hF : CallS g W F r) (hg : Gl X x) (hm : X.mg x = none) (hv : bootBuiltins x = some (.type T)) (ha : PA X (e :: es) (tA g W fs)) (hn : x ≠ "__name__") (hdb : (x == ("__debug__" : Str)) = false) (hs : noStar (e :: es) = true) :
    PE X (.Call (.Name x p) (e :: es) [] pos) (tI g W (cApp F fs)) := by
  have h' : (!starred e) = true ∧ noStar es = true := by simpa [noStar] using hs
  exact (pe_callTy hc hg hm hv ha hn hdb (star_plain (by simpa using h'.1) _ _) (star_all h'.2).1).pimp fun _ _ _ h => tCB_of hF h
/-- an argument list of one such list -/
theorem pa_lst {fl : Ln} (ha : PE X a (tL g W fl)) (hs : starred a = false) : PA X [a] (tCons (tL g W fl) tNil) := pa_cons ha pa_nil (star_plain hs _ _)
theorem tCBL_of {fl : Ln} (hF : LstS g W F r) {σ : L2.St} {H : Hp} {Q : VK} (h : tI g W (cApp F fl) σ H Q) : tCB r (tCons (tL g W fl) tNil) σ H Q := by
  obtain ⟨ρ, env, st, E, S, h⟩ := h
  exact ⟨ρ, env, st, E, S, h.bind.mono fun xs st1 ρ1 H1 x1 S1 h1 a vs ha _ hH hv => hF S1 ha hH hv h1⟩
theorem s_callBL {fl : Ln} (hc : CallR X (.builtin bid) r) (hF : LstS g W F r) (hg : Gl X x) (hm : X.mg x = none) (hv : bootBuiltins x = some (.builtin bid)) (ha : PE X a (tL g W fl)) (hn : x ≠ "__name__") (hdb : (x == ("__debug__" : Str)) = false) (hs : starred a = false) :
    PE X (.Call (.Name x p) [a] [] pos) (tI g W (cApp F fl)) :=
  (pe_callB hc hg hm hv (pa_lst ha hs) hn hdb (star_plain hs _ _) rfl).pimp fun _ _ _ h => tCBL_of hF h
theorem s_callTyL {fl : Ln} {T : String} (hc : CallR X (.type T) r) (hF : LstS g W F r) (hg : Gl X x) (hm : X.mg x = none) (hv : bootBuiltins x = some (.type T)) (ha : PE X a (tL g W fl)) (hn : x ≠ "__name__") (hdb : (x == ("__debug__" : Str)) = false) (hs : starred a = false) :
    PE X (.Call (.Name x p) [a] [] pos) (tI g W (cApp F fl)) :=
  (pe_callTy hc hg hm hv (pa_lst ha hs) hn hdb (star_plain hs _ _) rfl).pimp fun _ _ _ h => tCBL_of hF h

/-! ### the store takes a list up -/
theorem Ext.take {ρ ρ1 : Rho} {H H1 : Hp} {p : Addr} (E : Ext ρ H ρ1 H1) (hp : H p = Option.none) : Ext ρ H (ρ1 ++ [p]) H1 :=
  ⟨E.pre.trans (List.prefix_append _ _), fun b hb => by
    rcases List.mem_append.mp hb with hb | hb
    · exact E.new b hb
    · rw [List.mem_singleton] at hb; subst hb; exact .inr hp, E.there, E.keep⟩
theorem s_keep {fl : Ln} (ha : PE X a (tL g W fl)) : PE X a (tI g W (cKeep fl)) :=
  ha.pimp fun σ H Q ⟨ρ, env, st, E, S, h⟩ => ⟨ρ, env, st, E, S, by
    have h0 := h
    unfold cKeep at h0
    refine (Post.bind h0).monoE fun xs st1 ρ1 H1 z1 x1 S1 _ a vs ha hn hH hv => ?_
    unfold cKeep at h
    rw [bind_ok z1] at h
    refine (h (ρ1 ++ [a]) H1 (x1.take hn) (S1.take ha hH hv)) (.ref a) (.obj ?_)
    rw [← S1.len]
    simp⟩

/-! ### slices -/
def cutG {α : Type} (xs : List α) (lo hi : Option Int) : List α := (xs.drop (HT.sIx xs.length 0 lo)).take (HT.sIx xs.length xs.length hi - HT.sIx xs.length 0 lo)
theorem RepL.cut {ρ : Rho} {H : Hp} {vs : List V} {xs : List PV} (h : RepL g ρ H vs xs) (lo hi : Option Int) : RepL g ρ H (cutV vs lo hi) (cutG xs lo hi) := by
  unfold cutV cutG
  rw [h.length]
  exact (h.drop _).take _
def isWhole (n : Nat) (lo hi : Option Int) : Bool := decide (HT.sIx n 0 lo = 0 ∧ HT.sIx n n hi = n)
def sliceP (d : PV) (lo hi : Option Int) : M PV := fun st => match d with
  | .tup xs => .ok (.tup (cutG xs lo hi)) st
  | .ctup xs => if isWhole xs.length lo hi then .ok (.ctup xs) st else .ok (.tup (cutG xs lo hi)) st
  | .str s => if s.length ≤ sizeLine then .ok (.str (cutS s lo hi)) st else .no
  | .ilst xs => newLst (cutG xs lo hi) st
  | .obj n => match st[n]? with
    | some (.lst xs) => newLst (cutG xs lo hi) st
    | _ => .no
  | _ => .no
def cPart : Option Dn → EnvP → M (Option Int)
  | none, _ => pure none
  | some f, env => do
    let d ← f env
    match d with
    | .int i => pure (some i)
    | _ => M.fail
def cSlice (fa : Dn) (lo hi : Option Dn) : Dn := fun env => do
  let a ← fa env
  let l ← cPart lo env
  let u ← cPart hi env
  sliceP a l u
def tO (g : Gd) (W : XW) (f : EnvP → M (Option Int)) : TO := fun σ H Q => ∃ ρ env st, EnvR g ρ H σ env ∧ Sim g ρ st H ∧ Post g W ρ H (f env st) fun o _ _ H' => Q o H'
theorem _root_.L2.PO.pimp {e : Option Expr} {t t' : TO} (h : PO X e t) (q : ∀ σ H Q, t' σ H Q → t σ H Q) : PO X e t' := ⟨fun pins s σ H Q I hw => h.run pins s σ H Q I (q σ H Q hw)⟩
theorem so_none : PO X none (tO g W (cPart none)) := po_none.pimp fun σ H Q ⟨ρ, env, st, E, S, h⟩ => Post.pure h S
theorem so_some (ha : PE X a (tI g W fa)) : PO X (some a) (tO g W (cPart (some fa))) := (po_some ha).pimp fun σ H Q ⟨ρ, env, st, E, S, h⟩ => ⟨ρ, env, st, E, S, h.bind.mono fun d st1 ρ1 H1 x1 S1 h1 v hv => by
  cases hv <;> first | exact h1.elim | exact ⟨_, rfl, Post.pure h1 S1⟩⟩
theorem cutG_whole {α : Type} {xs : List α} {lo hi : Option Int} (h : HT.sIx xs.length 0 lo = 0 ∧ HT.sIx xs.length xs.length hi = xs.length) : cutG xs lo hi = xs := by
  unfold cutG
  rw [h.1, h.2]
  simp
theorem s_slice {lo hi : Option Expr} {flo fhi : Option Dn} {p2 : Pos} (hK : g.K = X.K) (ha : PE X a (tI g W fa)) (hl : PO X lo (tO g W (cPart flo))) (hh : PO X hi (tO g W (cPart fhi))) : PE X (.Subscript a (.Slice lo hi none p2) pos) (tI g W (cSlice fa flo fhi)) :=
  (pe_slice (sl_tupA.or (sl_str.or sl_list)) ha hl hh).pimp fun σ H Q ⟨ρ, env, st, E, S, h⟩ => by
    unfold cSlice at h
    refine ⟨ρ, env, st, E, S, h.bind.mono fun d st1 ρ1 H1 x1 S1 h1 v hv => ?_⟩
    refine ⟨ρ1, env, st1, E.ext S x1, S1, h1.bind.mono fun l st2 ρ2 H2 x2 S2 h2 => ?_⟩
    refine ⟨ρ2, env, st2, (E.ext S x1).ext S1 x2, S2, h2.bind.mono fun u st3 ρ3 H3 x3 S3 h3 => ?_⟩
    have hv3 := (hv.ext S1 x2).ext S2 x3
    cases hv3 with
    | @tup p vs xs hp hr =>
      refine .inl ⟨p, vs, rfl, .of hp, fun hw => ?_, fun hw q hq => ?_⟩
      · have e : cutG xs l u = xs := cutG_whole (by rw [← hr.length]; exact hw)
        refine (Post.pure h3 S3) _ ?_
        rw [e]
        exact .tup hp hr
      · exact (h3 ρ3 _ (S3.extFresh hq (.tup (cutV vs l u))) (S3.fresh hq _)) (.ref q) (.tup upd_same ((hr.cut l u).ext S3 (S3.extFresh hq _)))
    | @ctup p vs xs hp hr =>
      simp only [sliceP] at h3
      refine .inl ⟨p, vs, rfl, hK ▸ hp.sq, fun hw => ?_, fun hw q hq => ?_⟩
      · have e : isWhole xs.length l u = true := decide_eq_true (by rw [← hr.length]; exact hw)
        rw [if_pos e] at h3
        exact (Post.pure h3 S3) _ (.ctup hp hr)
      · have e : ¬ isWhole xs.length l u = true := fun z => hw (by rw [hr.length]; exact of_decide_eq_true z)
        rw [if_neg e] at h3
        exact (h3 ρ3 _ (S3.extFresh hq (.tup (cutV vs l u))) (S3.fresh hq _)) (.ref q) (.tup upd_same ((hr.cut l u).ext S3 (S3.extFresh hq _)))
    | str s =>
      simp only [sliceP] at h3
      by_cases hz : s.length ≤ sizeLine
      · rw [if_pos hz] at h3
        exact .inr (.inl ⟨s, rfl, hz, (Post.pure h3 S3) _ (.str _)⟩)
      · rw [if_neg hz] at h3; exact h3.elim
    | @ilst p vs xs hp hr =>
      refine .inr (.inr ⟨p, vs, rfl, hK ▸ hp.sq, fun q hq => ?_⟩)
      have E' := S3.extNew hq (.lst (cutV vs l u))
      refine (h3 _ _ E' (S3.new hq (show HR g _ _ (.lst (cutV vs l u)) (.lst (cutG xs l u)) from (hr.cut l u).ext S3 E'))) (.ref q) (.obj ?_)
      rw [← S3.len]; simp
    | @obj p n hn =>
      simp only [sliceP] at h3
      cases q : st3[n]? with
      | none => rw [q] at h3; exact h3.elim
      | some ob =>
        rw [q] at h3
        cases ob with
        | lst xs =>
          obtain ⟨w, eu, r⟩ := S3.at_ n p _ hn q
          obtain ⟨vs, rfl, r⟩ := HR.lst_inv r
          refine .inr (.inr ⟨p, vs, rfl, .of eu, fun q hq => ?_⟩)
          have E' := S3.extNew hq (.lst (cutV vs l u))
          refine (h3 _ _ E' (S3.new hq (show HR g _ _ (.lst (cutV vs l u)) (.lst (cutG xs l u)) from (r.cut l u).ext S3 E'))) (.ref q) (.obj ?_)
          rw [← S3.len]; simp
        | _ => exact h3.elim
    | _ => exact h3.elim

/-! ### len, int, str, tuple, list, max, min, all, any, isinstance -/
def bLen : List PV → M PV
  | [.str s] => fun st => if s.length ≤ sizeLine then .ok (.int s.length) st else .no
  | [.tup xs] => pure (.int xs.length)
  | [.ctup xs] => pure (.int xs.length)
  | [.ilst xs] => pure (.int xs.length)
  | [.obj n] => fun st => match st[n]? with
    | some (.lst xs) => .ok (.int xs.length) st
    | _ => .no
  | _ => M.fail
theorem cs_len (hK : g.K = X.K) : CallS g W bLen (fun xs H Q => ∃ x n, xs = [x] ∧ LenV X.K x H n ∧ Q (.int (n : Nat)) H) := by
  intro ρ st H vs xs Q S hv h
  cases hv with
  | nil => exact h.elim
  | cons hx hr =>
    cases hr with
    | cons _ _ => cases hx <;> exact h.elim
    | nil =>
      cases hx with
      | str s =>
        simp only [bLen] at h
        by_cases hz : s.length ≤ sizeLine
        · rw [if_pos hz] at h
          exact ⟨_, s.length, rfl, ⟨hz, rfl⟩, (Post.pure h S) _ (.int _)⟩
        · rw [if_neg hz] at h; exact h.elim
      | @tup p vs xs hp hr => exact ⟨_, xs.length, rfl, .inr ⟨vs, .of hp, hr.length.symm⟩, (Post.pure h S) _ (.int _)⟩
      | @ctup p vs xs hp hr => exact ⟨_, xs.length, rfl, .inr ⟨vs, hK ▸ hp.sq, hr.length.symm⟩, (Post.pure h S) _ (.int _)⟩
      | @ilst p vs xs hp hr => exact ⟨_, xs.length, rfl, .inl ⟨vs, hK ▸ hp.sq, hr.length.symm⟩, (Post.pure h S) _ (.int _)⟩
      | @obj p n hn =>
        simp only [bLen] at h
        cases q : st[n]? with
        | none => rw [q] at h; exact h.elim
        | some ob =>
          rw [q] at h
          cases ob with
          | lst xs =>
            obtain ⟨w, eu, r⟩ := S.at_ n p _ hn q
            obtain ⟨vs, rfl, r⟩ := HR.lst_inv r
            exact ⟨_, xs.length, rfl, .inl ⟨vs, .of eu, r.length.symm⟩, (Post.pure h S) _ (.int _)⟩
          | _ => exact h.elim
      | _ => exact h.elim
def fits1920 (i : Int) : Bool := decide (i.natAbs.log2 < 1920)
def bInt : List PV → M PV
  | [.int i] => pure (.int i)
  | [.bl k] => pure (.int (if k then 1 else 0))
  | [.str s] => fun st => match PySem.intText? s with
    | some n => if s.length ≤ 640 then .ok (.int n) st else .no
    | none => .no
  | _ => M.fail
def rIntAll : List V → Hp → VK → Prop := fun xs H Q => ((∃ i, xs = [.int i] ∧ Q (.int i) H) ∨ ∃ k, xs = [.bl k] ∧ Q (.int (if k then 1 else 0)) H) ∨ ∃ a n, xs = [.str a] ∧ PySem.intText? a = some n ∧ a.length ≤ 640 ∧ Q (.int n) H
theorem _root_.L2.CallR.por {v : Value} {r r' : List V → Hp → VK → Prop} (h : CallR X v r) (h' : CallR X v r') : CallR X v (fun xs H Q => r xs H Q ∨ r' xs H Q) := fun pins s σ H xs us Q I rv q => q.elim (h pins s σ H xs us Q I rv) (h' pins s σ H xs us Q I rv)
theorem call_intAll : CallR X (.type "int") rIntAll := call_int1.por call_int_str
theorem list_one {α : Type} {l : List α} {a : α} (h : l = [a]) : l = [a] := h
theorem cs_int : CallS g W bInt rIntAll := by
  intro ρ st H vs xs Q S hv h
  cases hv with
  | nil => exact h.elim
  | cons hx hr =>
    cases hr with
    | cons _ _ => cases hx <;> exact h.elim
    | nil =>
      cases hx with
      | int i => exact .inl (.inl ⟨i, rfl, (Post.pure h S) _ (.int _)⟩)
      | bl k => exact .inl (.inr ⟨k, rfl, (Post.pure h S) _ (.int _)⟩)
      | str s =>
        simp only [bInt] at h
        cases q : PySem.intText? s with
        | none => rw [q] at h; exact h.elim
        | some n =>
          rw [q] at h
          by_cases hz : s.length ≤ 640
          · simp only [if_pos hz] at h
            exact .inr ⟨s, n, rfl, q, hz, (Post.pure h S) _ (.int _)⟩
          · simp only [if_neg hz] at h; exact h.elim
      | _ => exact h.elim
def bStr : List PV → M PV
  | [.int i] => fun st => if fits1920 i then .ok (.str (toString i)) st else .no
  | [.str s] => pure (.str s)
  | _ => M.fail
def rStrAll : List V → Hp → VK → Prop := fun xs H Q => (∃ i, xs = [.int i] ∧ i.natAbs.log2 < 1920 ∧ Q (.str (toString i)) H) ∨ ∃ a, xs = [.str a] ∧ Q (.str a) H
theorem call_strAll : CallR X (.type "str") rStrAll := call_str_int.por SkE.call_str_str
theorem cs_str : CallS g W bStr rStrAll := by
  intro ρ st H vs xs Q S hv h
  cases hv with
  | nil => exact h.elim
  | cons hx hr =>
    cases hr with
    | cons _ _ => cases hx <;> exact h.elim
    | nil =>
      cases hx with
      | int i =>
        simp only [bStr] at h
        by_cases hz : fits1920 i = true
        · rw [if_pos hz] at h
          exact .inl ⟨i, rfl, of_decide_eq_true hz, (Post.pure h S) _ (.str _)⟩
        · rw [if_neg hz] at h; exact h.elim
      | str s => exact .inr ⟨s, rfl, (Post.pure h S) _ (.str _)⟩
      | _ => exact h.elim
/-- tuple(x) -/
def bTuple : List PV → M PV
  | [.tup xs] => pure (.tup xs)
  | [.ctup xs] => pure (.ctup xs)
  | [.ilst xs] => pure (.tup xs)
  | [.obj n] => fun st => match st[n]? with
    | some (.lst xs) => .ok (.tup xs) st
    | _ => .no
  | _ => M.fail
def rTupOf (K : PySem.W.Frag) : List V → Hp → VK → Prop := fun xs H Q => ∃ p ys, xs = [.ref p] ∧ ((SqL K H p ys ∧ ∀ l, H l = none → Q (.ref l) (upd H l (.tup ys))) ∨ (SqT K H p ys ∧ Q (.ref p) H))
theorem Post.newTup {ρ : Rho} {H : Hp} {st : Store} {p : Addr} {vs : List V} {xs : List PV} {Q : VK} (h : Post g W ρ H (.ok (.tup xs) st) (fun z _ ρ' H' => ∀ v, RepV g ρ' H' v z → Q v H')) (S : Sim g ρ st H) (hr : RepL g ρ H vs xs) (hp : H p = none) : Q (.ref p) (upd H p (.tup vs)) :=
  (h ρ _ (S.extFresh hp (.tup vs)) (S.fresh hp _)) (.ref p) (.tup upd_same (hr.ext S (S.extFresh hp _)))
theorem cs_tuple (hK : g.K = X.K) : CallS g W bTuple (rTupOf X.K) := by
  intro ρ st H vs xs Q S hv h
  cases hv with
  | nil => exact h.elim
  | cons hx hr =>
    cases hr with
    | cons _ _ => cases hx <;> exact h.elim
    | nil =>
      cases hx with
      | @tup p vs xs hp hr => exact ⟨p, vs, rfl, .inr ⟨.of hp, (Post.pure h S) _ (.tup hp hr)⟩⟩
      | @ctup p vs xs hp hr => exact ⟨p, vs, rfl, .inr ⟨hK ▸ hp.sq, (Post.pure h S) _ (.ctup hp hr)⟩⟩
      | @ilst p vs xs hp hr => exact ⟨p, vs, rfl, .inl ⟨hK ▸ hp.sq, fun l hl => Post.newTup h S hr hl⟩⟩
      | @obj p n hn =>
        simp only [bTuple] at h
        cases q : st[n]? with
        | none => rw [q] at h; exact h.elim
        | some ob =>
          rw [q] at h
          cases ob with
          | lst xs =>
            obtain ⟨w, eu, r⟩ := S.at_ n p _ hn q
            obtain ⟨vs, rfl, r⟩ := HR.lst_inv r
            exact ⟨p, vs, rfl, .inl ⟨.of eu, fun l hl => Post.newTup h S r hl⟩⟩
          | _ => exact h.elim
      | _ => exact h.elim
def lTuple : List PV → M PV := fun xs => pure (.tup xs)
theorem ls_tuple : LstS g W lTuple (rTupOf X.K) := fun S ha hH hv h => ⟨_, _, rfl, .inl ⟨.of hH, fun l hl => Post.newTup h S hv hl⟩⟩
def boolsOf : List PV → Option (List Bool)
  | [] => some []
  | .bl b :: r => (boolsOf r).map (b :: ·)
  | _ :: _ => none
theorem bools_of {ρ : Rho} {H : Hp} : ∀ {vs : List V} {xs : List PV} {bs : List Bool}, RepL g ρ H vs xs → boolsOf xs = some bs → vs = bs.map V.bl
  | _, _, _, .nil, e => by cases e; rfl
  | _, x :: xs, bs, .cons h r, e => by
    cases h <;> first | (simp [boolsOf] at e; done) | skip
    rename_i b
    cases q : boolsOf xs with
    | none => simp [boolsOf, q] at e
    | some cs =>
      simp [boolsOf, q] at e; subst e
      rw [List.map_cons, bools_of r q]
def lAll : List PV → M PV := fun xs st => match boolsOf xs with
  | some bs => .ok (.bl (bs.all id)) st
  | none => .no
def lAny : List PV → M PV := fun xs st => match boolsOf xs with
  | some bs => .ok (.bl (bs.any id)) st
  | none => .no
theorem ls_all : LstS g W lAll (rAll X.K) := by
  intro ρ st H a vs xs Q S ha hH hv h
  unfold lAll at h
  cases q : boolsOf xs with
  | none => rw [q] at h; exact h.elim
  | some bs =>
    rw [q] at h
    exact ⟨a, bs, rfl, by rw [← bools_of hv q]; exact .of hH, (Post.pure h S) _ (.bl _)⟩
theorem ls_any : LstS g W lAny (rAny X.K) := by
  intro ρ st H a vs xs Q S ha hH hv h
  unfold lAny at h
  cases q : boolsOf xs with
  | none => rw [q] at h; exact h.elim
  | some bs =>
    rw [q] at h
    exact ⟨a, bs, rfl, by rw [← bools_of hv q]; exact .of hH, (Post.pure h S) _ (.bl _)⟩
def bMax : List PV → M PV
  | [.int i, .int j] => pure (.int (if j > i then j else i))
  | _ => M.fail
def bMin : List PV → M PV
  | [.int i, .int j] => pure (.int (if j < i then j else i))
  | _ => M.fail
theorem cs_max : CallS g W bMax (fun xs H Q => ∃ i j, xs = [.int i, .int j] ∧ Q (.int (if j > i then j else i)) H) := by
  intro ρ st H vs xs Q S hv h
  unfold bMax at h
  split at h
  · cases hv with | cons a r => cases r with | cons b r => cases r; cases a; cases b; exact ⟨_, _, rfl, (Post.pure h S) _ (.int _)⟩
  · exact h.elim
theorem cs_min : CallS g W bMin (fun xs H Q => ∃ i j, xs = [.int i, .int j] ∧ Q (.int (if j < i then j else i)) H) := by
  intro ρ st H vs xs Q S hv h
  unfold bMin at h
  split at h
  · cases hv with | cons a r => cases r with | cons b r => cases r; cases a; cases b; exact ⟨_, _, rfl, (Post.pure h S) _ (.int _)⟩
  · exact h.elim
/-- isinstance(x, T), T a built-in type -/
def tyName (st : Store) : PV → Option String
  | .non => some "NoneType"
  | .bl _ => some "bool"
  | .int _ => some "int"
  | .str _ => some "str"
  | .tup _ => some "tuple"
  | .ctup _ => some "tuple"
  | .ilst _ => some "list"
  | .obj n => match st[n]? with
    | some (.lst _) => some "list"
    | some (.dK _) => some "dict"
    | some (.dT _) => some "dict"
    | _ => none
  | _ => none
end
end PyI

/-! PyI6: what is walked; targets; comprehensions. -/
namespace PyI
open L2 PySem PySem.Spec PyProof.Rows

/-- what must stand in the store while it is walked -/
abbrev Guard := List (Nat × List PV)
def gdOk (gd : Guard) (st : Store) : Bool := gd.all fun p => decide (st[p.1]? = some (.lst p.2))
def chk (gd : Guard) : M Unit := fun st => if gdOk gd st then .ok () st else .no
abbrev Wn := EnvP → M (List PV × Guard)
/-- the walk J gives xs, while the guard holds -/
structure WOk (g : Gd) (ρ : Rho) (H : Hp) (J : It) (xs : List PV) (gd : Guard) : Prop where
  ex : ∃ (G : Hp → Prop) (Y : Nat → Hp → V → Hp → Prop), Walk J xs.length G Y ∧
    (∀ ρ2 st2 H2, Ext ρ H ρ2 H2 → Sim g ρ2 st2 H2 → gdOk gd st2 = true → G H2) ∧
    ∀ i H2 v H3 ρ2 st2, i < xs.length → Ext ρ H ρ2 H2 → Sim g ρ2 st2 H2 → gdOk gd st2 = true → Y i H2 v H3 → ∃ d, xs[i]? = some d ∧ Ext ρ2 H2 ρ2 H3 ∧ Sim g ρ2 st2 H3 ∧ RepV g ρ2 H3 v d
def tW (g : Gd) (W : XW) (f : Wn) : TI := fun σ H R => ∃ ρ env st, EnvR g ρ H σ env ∧ Sim g ρ st H ∧ Post g W ρ H (f env st) fun p st' ρ' H' => gdOk p.2 st' = true → ∀ J, WOk g ρ' H' J p.1 p.2 → R J H'
theorem _root_.L2.PI.pimp {X : Cx} {tg e : Expr} {t t' : TI} (h : PI X tg e t) (q : ∀ σ H R, t' σ H R → t σ H R) : PI X tg e t' := ⟨fun pins s σ H R I hw => h.run pins s σ H R I (q σ H R hw)⟩
theorem _root_.L2.PI.por {X : Cx} {tg e : Expr} {t t' : TI} (h : PI X tg e t) (h' : PI X tg e t') : PI X tg e (fun σ H R => t σ H R ∨ t' σ H R) := ⟨fun pins s σ H R I hw => hw.elim (h.run pins s σ H R I) (h'.run pins s σ H R I)⟩

/-- the items of a list or tuple as it stands -/
def itemsP (d : PV) : M (List PV × Guard) := fun st => match d with
  | .tup xs => .ok (xs, []) st
  | .ctup xs => .ok (xs, []) st
  | .ilst xs => .ok (xs, []) st
  | .obj n => match st[n]? with
    | some (.lst xs) => .ok (xs, [(n, xs)]) st
    | _ => .no
  | .str s => .ok (s.cps.toList.map fun c => .str ⟨#[c]⟩, []) st
  | _ => .no
def wVal (f : Dn) : Wn := fun env => do
  let d ← f env
  itemsP d
def wLst (f : Ln) : Wn := fun env => do
  let xs ← f env
  pure (xs, [])
def wRange1 (f : Dn) : Wn := fun env => do
  let d ← f env
  match d with
  | .int j => if -(2 ^ 62) ≤ j ∧ j < 2 ^ 62 then pure ((List.range j.toNat).map fun i => PV.int (i : Nat), []) else M.fail
  | _ => M.fail
def wRange2 (fa fb : Dn) : Wn := fun env => do
  let a ← fa env
  let b ← fb env
  match a, b with
  | .int i, .int j => if (-(2 ^ 62) ≤ i ∧ i < 2 ^ 62) ∧ -(2 ^ 62) ≤ j ∧ j < 2 ^ 62 then pure ((List.range (j - i).toNat).map fun (k : Nat) => PV.int (i + k), []) else M.fail
  | _, _ => M.fail
/-- enumerate(x), x a list -/
def listP (d : PV) : M (List PV × Guard) := fun st => match d with
  | .ilst xs => .ok (xs, []) st
  | .obj n => match st[n]? with
    | some (.lst xs) => .ok (xs, [(n, xs)]) st
    | _ => .no
  | _ => .no
def enumP (xs : List PV) : List PV := xs.zipIdx.map fun p => .tup [.int (p.2 : Nat), p.1]
def wEnum (f : Dn) : Wn := fun env => do
  let d ← f env
  let p ← listP d
  pure (enumP p.1, p.2)
def wEnumL (f : Ln) : Wn := fun env => do
  let xs ← f env
  pure (enumP xs, [])
section
variable {X : Cx} {g : Gd} {W : XW} {tg e e2 : Expr} {f f2 : Dn} {fl : Ln}
theorem gd_nil {st : Store} : gdOk [] st = true := rfl
theorem gd_one {st : Store} {n : Nat} {xs : List PV} (h : st[n]? = some (.lst xs)) : gdOk [(n, xs)] st = true := by
  simp [gdOk, h]
theorem of_gd {st : Store} {n : Nat} {xs : List PV} (h : gdOk [(n, xs)] st = true) : st[n]? = some (.lst xs) := by
  simpa [gdOk] using h
theorem RepL.item {ρ : Rho} {H : Hp} {vs : List V} {xs : List PV} {i : Nat} {v : V} (h : RepL g ρ H vs xs) (e : vs[i]? = some v) : ∃ d, xs[i]? = some d ∧ RepV g ρ H v d := h.get' e
/-- a walk over values that stand still -/
theorem WOk.still {ρ : Rho} {st : Store} {H : Hp} {J : It} {vs : List V} {xs : List PV} {G : Hp → Prop} {gd : Guard} (S : Sim g ρ st H) (hr : RepL g ρ H vs xs) (w : Walk J vs.length G (YAt vs))
    (hG : ∀ ρ2 st2 H2, Ext ρ H ρ2 H2 → Sim g ρ2 st2 H2 → gdOk gd st2 = true → G H2) : WOk g ρ H J xs gd :=
  ⟨G, YAt vs, by rw [← hr.length]; exact w, hG, fun i H2 v H3 ρ2 st2 hi E S2 hg y => by
    obtain ⟨rfl, e⟩ := y
    obtain ⟨d, h1, h2⟩ := (hr.ext S E).item e
    exact ⟨d, h1, Ext.refl _ _, S2, h2⟩⟩
/-- a store's list: its items now are those of the guard -/
theorem WOk.store {ρ : Rho} {st : Store} {H : Hp} {J : It} {a : Addr} {n : Nat} {xs : List PV} (S : Sim g ρ st H) (hn : ρ[n]? = some a)
    (w : ∀ vs : List V, vs.length = xs.length → Walk J xs.length (fun H => SqL X.K H a vs) (YAt vs)) (go : ∀ i H, i < xs.length → (∃ vs : List V, vs.length = xs.length ∧ SqL X.K H a vs) → J.go i H) (stop : ∀ H, (∃ vs : List V, vs.length = xs.length ∧ SqL X.K H a vs) → J.stop xs.length H)
    (yl : ∀ i H x H', J.yld i H x H' → H' = H ∧ ∀ vs, SqL X.K H a vs → vs[i]? = some x) : WOk g ρ H J xs [(n, xs)] := by
  have at2 : ∀ ρ2 st2 H2, Ext ρ H ρ2 H2 → Sim g ρ2 st2 H2 → gdOk [(n, xs)] st2 = true → ∃ vs, SqL X.K H2 a vs ∧ RepL g ρ2 H2 vs xs := fun ρ2 st2 H2 E S2 hg => by
    obtain ⟨u, eu, r⟩ := S2.at_ n a _ (pre_get E.pre hn) (of_gd hg)
    obtain ⟨vs, rfl, r⟩ := HR.lst_inv r
    exact ⟨vs, .of eu, r⟩
  refine ⟨fun H2 => ∃ vs : List V, vs.length = xs.length ∧ SqL X.K H2 a vs, fun i H2 v H3 => H3 = H2 ∧ ∀ vs, SqL X.K H2 a vs → vs[i]? = some v, ⟨fun i H hi h => go i H hi h, fun H h => stop H h, fun i H x H' hi h y => yl i H x H' y⟩, fun ρ2 st2 H2 E S2 hg => ?_, fun i H2 v H3 ρ2 st2 hi E S2 hg y => ?_⟩
  · obtain ⟨vs, h1, h2⟩ := at2 ρ2 st2 H2 E S2 hg
    exact ⟨vs, h2.length, h1⟩
  · obtain ⟨rfl, y⟩ := y
    obtain ⟨vs, h1, h2⟩ := at2 ρ2 st2 _ E S2 hg
    obtain ⟨d, h3, h4⟩ := h2.item (y vs h1)
    exact ⟨d, h3, Ext.refl _ _, S2, h4⟩
theorem itl_go {K : PySem.W.Frag} {a : Addr} {n i : Nat} {H : Hp} (hi : i < n) (h : ∃ vs : List V, vs.length = n ∧ SqL K H a vs) : (Itl K a).go i H := by
  obtain ⟨vs, e, h⟩ := h
  exact ⟨vs, vs[i]'(by omega), h, by simp [e, hi]⟩
theorem itl_stop {K : PySem.W.Frag} {a : Addr} {n : Nat} {H : Hp} (h : ∃ vs : List V, vs.length = n ∧ SqL K H a vs) : (Itl K a).stop n H := by
  obtain ⟨vs, e, h⟩ := h
  exact ⟨vs, h, by omega⟩
theorem s_wVal (hK : g.K = X.K) (he : PE X e (tI g W f)) : PI X tg e (tW g W (wVal f)) := by
  refine ((pi_list he).por ((pi_tup he).por (pi_str he))).pimp fun σ H R ⟨ρ, env, st, E, S, h⟩ => ?_
  unfold wVal at h
  by_cases hd : ∃ d st1, f env st = .ok d st1 ∧ ((∃ xs, d = .tup xs) ∨ ∃ xs, d = .ctup xs)
  · obtain ⟨d, st1, q1, hd⟩ := hd
    refine .inr (.inl ⟨ρ, env, st, E, S, h.bind.monoE fun d' st1' ρ1 H1 z1 x1 S1 h1 v hv => ?_⟩)
    rw [q1] at z1; cases z1
    rcases hd with ⟨xs, rfl⟩ | ⟨xs, rfl⟩
    · cases hv with
      | @tup p vs _ hp hr =>
        exact ⟨p, rfl, ⟨vs, .of hp⟩, (Post.pure h1 S1) gd_nil _ (WOk.still S1 hr walk_tup fun ρ2 st2 H2 E2 _ _ => .of (tup_ext S1 E2 hp))⟩
    · cases hv with
      | @ctup p vs _ hp hr =>
        exact ⟨p, rfl, ⟨vs, hK ▸ hp.sq⟩, (Post.pure h1 S1) gd_nil _ (WOk.still S1 hr walk_tup fun ρ2 st2 H2 E2 _ _ => hK ▸ hp.sq)⟩
  · by_cases hs : ∃ z st1, f env st = .ok (.str z) st1
    · obtain ⟨z, st1, q1⟩ := hs
      refine .inr (.inr ⟨ρ, env, st, E, S, h.bind.monoE fun d' st1' ρ1 H1 z1 x1 S1 h1 v hv => ?_⟩)
      rw [q1] at z1; cases z1
      cases hv
      have hl : (z.cps.toList.map fun c => (PV.str ⟨#[c]⟩)).length = z.cps.size := by simp
      refine ⟨z, rfl, (Post.pure h1 S1) gd_nil _ ⟨_, _, by rw [hl]; exact walk_str, fun _ _ _ _ _ _ => trivial, fun i H2 v H3 ρ2 st2 hi E2 S2 _ y => ?_⟩⟩
      obtain ⟨rfl, c, hc, rfl⟩ := y
      refine ⟨.str ⟨#[c]⟩, ?_, Ext.refl _ _, S2, .str _⟩
      rw [List.getElem?_map, Array.getElem?_toList, hc]
      rfl
    · refine .inl ⟨ρ, env, st, E, S, h.bind.monoE fun d st1 ρ1 H1 z1 x1 S1 h1 v hv => ?_⟩
      cases hv with
      | @tup p vs xs hp hr => exact absurd ⟨_, _, z1, .inl ⟨_, rfl⟩⟩ hd
      | @ctup p vs xs hp hr => exact absurd ⟨_, _, z1, .inr ⟨_, rfl⟩⟩ hd
      | str z => exact absurd ⟨_, _, z1⟩ hs
      | @ilst p vs xs hp hr => exact ⟨p, rfl, ⟨vs, hK ▸ hp.sq⟩, (Post.pure h1 S1) gd_nil _ (WOk.still S1 hr walk_list fun ρ2 st2 H2 E2 _ _ => hK ▸ (sqI_ext S1 E2 hp).sq)⟩
      | @obj p n hn =>
        simp only [itemsP] at h1
        cases q : st1[n]? with
        | none => rw [q] at h1; exact h1.elim
        | some ob =>
          rw [q] at h1
          cases ob with
          | lst xs =>
            obtain ⟨u, eu, r⟩ := S1.at_ n p _ hn q
            obtain ⟨vs, rfl, r⟩ := HR.lst_inv r
            exact ⟨p, rfl, ⟨vs, .of eu⟩, (Post.pure h1 S1) (gd_one q) _ (WOk.store (X := X) S1 hn (fun ws e => by rw [← e]; exact walk_list) (fun i H hi hh => itl_go hi hh) (fun H hh => itl_stop hh) fun i H x H' y => y)⟩
          | _ => exact h1.elim
      | _ => exact h1.elim
/-- a list that nobody else holds stands still -/
theorem lst_still {ρ ρ2 : Rho} {H H2 : Hp} {a : Addr} {vs : List V} (ha : a ∉ ρ) (hH : H a = some (.lst vs)) (E : Ext ρ H ρ2 H2) : H2 a = some (.lst vs) := E.keep a _ hH ha fun ps z => by cases z
theorem s_wLst (he : PE X e (tL g W fl)) : PI X tg e (tW g W (wLst fl)) :=
  (pi_list he).pimp fun σ H R ⟨ρ, env, st, E, S, h⟩ => ⟨ρ, env, st, E, S, h.bind.mono fun xs st1 ρ1 H1 x1 S1 h1 a vs ha _ hH hv =>
    ⟨a, rfl, ⟨vs, .of hH⟩, (Post.pure h1 S1) gd_nil _ (WOk.still S1 hv walk_list fun ρ2 st2 H2 E2 _ _ => .of (lst_still ha hH E2))⟩⟩
theorem range_still {ρ : Rho} {H : Hp} {lo : Int} {n : Nat} : WOk g ρ H (Itr lo n) ((List.range n).map fun (k : Nat) => PV.int (lo + k)) [] :=
  ⟨_, _, by rw [List.length_map, List.length_range]; exact walk_range, fun _ _ _ _ _ _ => trivial, fun i H2 v H3 ρ2 st2 hi E2 S2 _ y => by
    obtain ⟨rfl, rfl⟩ := y
    rw [List.length_map, List.length_range] at hi
    refine ⟨.int (lo + i), ?_, Ext.refl _ _, S2, .int _⟩
    rw [List.getElem?_map, List.getElem?_range hi]
    rfl⟩
theorem s_wRange1 {p pos : Pos} (hg : Gl X "range") (hm : X.mg "range" = none) (he : PE X e (tI g W f)) (hs : starred e = false) : PI X tg (.Call (.Name "range" p) [e] [] pos) (tW g W (wRange1 f)) :=
  (pi_range1 hg hm (pa_cons he pa_nil (star_plain hs _ _)) (star_plain hs _ _)).pimp fun σ H R ⟨ρ, env, st, E, S, h⟩ => ⟨ρ, env, st, E, S, h.bind.mono fun d st1 ρ1 H1 x1 S1 h1 v hv => by
    cases hv <;> first | exact h1.elim | skip
    rename_i j
    by_cases hj : -(2 ^ 62) ≤ j ∧ j < 2 ^ 62
    · simp only [if_pos hj] at h1
      refine ⟨j, rfl, hj.1, hj.2, (Post.pure h1 S1) gd_nil _ ?_⟩
      have := range_still (g := g) (ρ := ρ1) (H := H1) (lo := 0) (n := j.toNat)
      simpa using this
    · simp only [if_neg hj] at h1; exact h1.elim⟩
theorem s_wRange2 {p pos : Pos} (hg : Gl X "range") (hm : X.mg "range" = none) (he : PE X e (tI g W f)) (he2 : PE X e2 (tI g W f2)) (hs : starred e = false) (hs2 : starred e2 = false) : PI X tg (.Call (.Name "range" p) [e, e2] [] pos) (tW g W (wRange2 f f2)) :=
  (pi_range2 hg hm (pa_cons he (pa_cons he2 pa_nil (star_plain hs2 _ _)) (star_plain hs _ _)) (by rw [star_plain hs, star_plain hs2] <;> rfl) (star_plain hs2 _ _)).pimp fun σ H R ⟨ρ, env, st, E, S, h⟩ => ⟨ρ, env, st, E, S, h.bind.mono fun d st1 ρ1 H1 x1 S1 h1 v hv =>
    ⟨ρ1, env, st1, E.ext S x1, S1, h1.bind.mono fun d2 st2 ρ2 H2 x2 S2 h2 v2 hv2 => by
      cases hv <;> first | exact h2.elim | skip
      cases hv2 <;> first | exact h2.elim | skip
      rename_i i j
      by_cases hj : (-(2 ^ 62) ≤ i ∧ i < 2 ^ 62) ∧ -(2 ^ 62) ≤ j ∧ j < 2 ^ 62
      · simp only [if_pos hj] at h2
        exact ⟨i, j, rfl, ⟨hj.1.1, hj.1.2, hj.2.1, hj.2.2⟩, (Post.pure h2 S2) gd_nil _ range_still⟩
      · simp only [if_neg hj] at h2; exact h2.elim⟩⟩
theorem enum_item {xs : List PV} {i : Nat} {d : PV} (h : xs[i]? = some d) : (enumP xs)[i]? = some (.tup [.int (i : Nat), d]) := by
  unfold enumP
  rw [List.getElem?_map, List.getElem?_zipIdx, h]
  simp
theorem enum_len {xs : List PV} : (enumP xs).length = xs.length := by unfold enumP; simp
/-- a new pair at each turn -/
theorem pair_turn {ρ2 : Rho} {st2 : Store} {H2 H3 : Hp} {T : Addr} {x y : V} {d e : PV} (S2 : Sim g ρ2 st2 H2) (hT : H2 T = none) (e3 : H3 = upd H2 T (.tup [x, y])) (hx : RepV g ρ2 H2 x d) (hy : RepV g ρ2 H2 y e) :
    Ext ρ2 H2 ρ2 H3 ∧ Sim g ρ2 st2 H3 ∧ RepV g ρ2 H3 (.ref T) (.tup [d, e]) := by
  subst e3
  exact ⟨S2.extFresh hT _, S2.fresh hT _, .tup upd_same (.cons (hx.ext S2 (S2.extFresh hT _)) (.cons (hy.ext S2 (S2.extFresh hT _)) .nil))⟩
theorem enum_still {ρ : Rho} {st : Store} {H : Hp} {a : Addr} {vs : List V} {xs : List PV} {gd : Guard} (S : Sim g ρ st H) (hr : RepL g ρ H vs xs) (hG : ∀ ρ2 st2 H2, Ext ρ H ρ2 H2 → Sim g ρ2 st2 H2 → gdOk gd st2 = true → SqL X.K H2 a vs) : WOk g ρ H (Ite X.K a) (enumP xs) gd :=
  ⟨_, _, by rw [enum_len, ← hr.length]; exact walk_enum, hG, fun i H2 v H3 ρ2 st2 hi E2 S2 hg y => by
    obtain ⟨T, x, z, rfl, hT, e3, q1, q2⟩ := y
    cases q1
    obtain ⟨d, h1, h2⟩ := (hr.ext S E2).item q2
    exact ⟨_, enum_item h1, pair_turn S2 hT e3 (.int _) h2⟩⟩
theorem enum_store {ρ : Rho} {st : Store} {H : Hp} {a : Addr} {n : Nat} {xs : List PV} (S : Sim g ρ st H) (hn : ρ[n]? = some a) : WOk g ρ H (Ite X.K a) (enumP xs) [(n, xs)] := by
  have at2 : ∀ ρ2 st2 H2, Ext ρ H ρ2 H2 → Sim g ρ2 st2 H2 → gdOk [(n, xs)] st2 = true → ∃ vs, SqL X.K H2 a vs ∧ RepL g ρ2 H2 vs xs := fun ρ2 st2 H2 E S2 hg => by
    obtain ⟨u, eu, r⟩ := S2.at_ n a _ (pre_get E.pre hn) (of_gd hg)
    obtain ⟨vs, rfl, r⟩ := HR.lst_inv r
    exact ⟨vs, .of eu, r⟩
  refine ⟨fun H2 => ∃ vs : List V, vs.length = xs.length ∧ SqL X.K H2 a vs, fun i H2 v H3 => ∃ T x, v = .ref T ∧ H2 T = none ∧ H3 = upd H2 T (.tup [.int (i : Nat), x]) ∧ ∀ vs, SqL X.K H2 a vs → vs[i]? = some x, ?_, fun ρ2 st2 H2 E S2 hg => ?_, fun i H2 v H3 ρ2 st2 hi E S2 hg y => ?_⟩
  · rw [enum_len]
    refine ⟨fun i H hi h => ?_, fun H h => ?_, fun i H x H' hi h y => y⟩
    · obtain ⟨vs, e, h⟩ := h
      exact ⟨vs, vs[i]'(by omega), h, by simp [e, hi]⟩
    · obtain ⟨vs, e, h⟩ := h
      exact ⟨vs, h, by omega⟩
  · obtain ⟨vs, h1, h2⟩ := at2 ρ2 st2 H2 E S2 hg
    exact ⟨vs, h2.length, h1⟩
  · obtain ⟨T, x, rfl, hT, e3, y⟩ := y
    obtain ⟨vs, h1, h2⟩ := at2 ρ2 st2 _ E S2 hg
    obtain ⟨d, h3, h4⟩ := h2.item (y vs h1)
    exact ⟨_, enum_item h3, pair_turn S2 hT e3 (.int _) h4⟩
variable {elts : List Expr} {kk : Nat} {tpos p pos : Pos}
theorem s_wEnum (hK : g.K = X.K) (hg : Gl X "enumerate") (hm : X.mg "enumerate" = none) (he : PE X e (tI g W f)) (hs : starred e = false) : PI X (.Tuple elts kk tpos) (.Call (.Name "enumerate" p) [e] [] pos) (tW g W (wEnum f)) :=
  (pi_enum hg hm (pa_cons he pa_nil (star_plain hs _ _)) (star_plain hs _ _)).pimp fun σ H R ⟨ρ, env, st, E, S, h⟩ => ⟨ρ, env, st, E, S, h.bind.mono fun d st1 ρ1 H1 x1 S1 h1 v hv => by
    cases hv with
    | @ilst q vs xs hp hr =>
      exact ⟨q, vs, rfl, hK ▸ hp.sq, (Post.pure (Post.pure h1.bind S1) S1) gd_nil _ (enum_still S1 hr fun ρ2 st2 H2 E2 _ _ => hK ▸ (sqI_ext S1 E2 hp).sq)⟩
    | @obj q n hn =>
      have h2 := h1.bind
      simp only [listP] at h2
      cases e1 : st1[n]? with
      | none => rw [e1] at h2; exact h2.elim
      | some ob =>
        rw [e1] at h2
        cases ob with
        | lst xs =>
          obtain ⟨u, eu, r⟩ := S1.at_ n q _ hn e1
          obtain ⟨vs, rfl, r⟩ := HR.lst_inv r
          exact ⟨q, vs, rfl, .of eu, (Post.pure (Post.pure h2 S1) S1) (gd_one e1) _ (enum_store S1 hn)⟩
        | _ => exact h2.elim
    | _ => exact h1.bind.elim⟩
theorem s_wEnumL (hg : Gl X "enumerate") (hm : X.mg "enumerate" = none) (he : PE X e (tL g W fl)) (hs : starred e = false) : PI X (.Tuple elts kk tpos) (.Call (.Name "enumerate" p) [e] [] pos) (tW g W (wEnumL fl)) :=
  (pi_enum hg hm (pa_cons he pa_nil (star_plain hs _ _)) (star_plain hs _ _)).pimp fun σ H R ⟨ρ, env, st, E, S, h⟩ => ⟨ρ, env, st, E, S, h.bind.mono fun xs st1 ρ1 H1 x1 S1 h1 a vs ha _ hH hv =>
    ⟨a, vs, rfl, .of hH, (Post.pure h1 S1) gd_nil _ (enum_still S1 hv fun ρ2 st2 H2 E2 _ _ => .of (lst_still ha hH E2))⟩⟩
end
end PyI

/-! PyI7: targets, comprehensions. -/
namespace PyI
open L2 PySem PySem.Spec PyProof.Rows

/-! ### targets that are names, or tuples of targets -/
inductive Tg where
  | name (i : Nat)
  | tup (ts : List Tg)
mutual
def Tg.slots : Tg → List Nat
  | .name i => [i]
  | .tup ts => Tg.slotsL ts
def Tg.slotsL : List Tg → List Nat
  | [] => []
  | t :: ts => Tg.slots t ++ Tg.slotsL ts
end
mutual
def setT : Tg → PV → EnvP → M EnvP
  | .name i, d, env => pure (env.set i (some d))
  | .tup ts, .tup xs, env => setTs ts xs env
  | .tup ts, .ctup xs, env => setTs ts xs env
  | .tup _, _, _ => M.fail
def setTs : List Tg → List PV → EnvP → M EnvP
  | [], [], env => pure env
  | t :: ts, x :: xs, env => do
    let env1 ← setT t x env
    setTs ts xs env1
  | _, _, _ => M.fail
end
/-- only these slots have changed -/
def OffS (sl : List Nat) (σ σ' : L2.St) : Prop := σ'.length = σ.length ∧ ∀ j, j ∉ sl → σ'[j]? = σ[j]?
theorem OffS.refl (sl : List Nat) (σ : L2.St) : OffS sl σ σ := ⟨rfl, fun _ _ => rfl⟩
theorem OffS.trans {a b : List Nat} {σ σ1 σ2 : L2.St} (h : OffS a σ σ1) (h' : OffS b σ1 σ2) : OffS (a ++ b) σ σ2 :=
  ⟨h'.1.trans h.1, fun j hj => by
    have h1 : j ∉ a := fun z => hj (List.mem_append_left _ z)
    have h2 : j ∉ b := fun z => hj (List.mem_append_right _ z)
    exact (h'.2 j h2).trans (h.2 j h1)⟩
theorem wipe_at {σ : L2.St} {j : Nat} : ∀ {vs : List Nat}, (L2.wipe σ vs)[j]? = if j ∈ vs ∧ j < σ.length then some none else σ[j]?
  | [] => by simp [L2.wipe]
  | v :: vs => by
    unfold L2.wipe
    rw [List.getElem?_set, wipe_at (vs := vs), L2.wipe_length]
    by_cases hv : v = j
    · subst hv
      by_cases hl : v < σ.length
      · simp [hl]
      · simp [hl]
    · have : j ≠ v := Ne.symm hv
      simp [hv, this]
theorem OffS.wipe {sl vs : List Nat} {σ σ' : L2.St} (h : OffS sl σ σ') (hs : ∀ j ∈ sl, j ∈ vs) : L2.wipe σ' vs = L2.wipe σ vs := by
  apply List.ext_getElem?
  intro j
  rw [wipe_at, wipe_at, h.1]
  by_cases hj : j ∈ vs
  · by_cases hl : j < σ.length
    · simp [hj, hl]
    · simp only [hl, and_false, if_false]
      rw [List.getElem?_eq_none (by have := h.1; omega), List.getElem?_eq_none (by omega)]
  · simp only [hj, false_and, if_false]
    exact h.2 j fun z => hj (hs j z)
def tG (g : Gd) (W : XW) (t : Tg) : TG := fun v σ H Q => ∃ ρ env st d, EnvR g ρ H σ env ∧ Sim g ρ st H ∧ RepV g ρ H v d ∧ Post g W ρ H (setT t d env st) fun env' _ ρ' H' => ρ' = ρ → H' = H → ∀ σ', EnvR g ρ H σ' env' → OffS t.slots σ σ' → Q σ' H
def tGs (g : Gd) (W : XW) (ts : List Tg) : TGs := fun vs σ H Q => ∃ ρ env st ds, EnvR g ρ H σ env ∧ Sim g ρ st H ∧ RepL g ρ H vs ds ∧ Post g W ρ H (setTs ts ds env st) fun env' _ ρ' H' => ρ' = ρ → H' = H → ∀ σ', EnvR g ρ H σ' env' → OffS (Tg.slotsL ts) σ σ' → Q σ' H
theorem _root_.L2.PG.pimp {X : Cx} {e : Expr} {t t' : TG} (h : PG X e t) (q : ∀ v σ H Q, t' v σ H Q → t v σ H Q) : PG X e t' := ⟨fun pins s σ H v u Q I r hw => h.run pins s σ H v u Q I r (q v σ H Q hw)⟩
theorem _root_.L2.PGs.pimp {X : Cx} {e : List Expr} {t t' : TGs} (h : PGs X e t) (q : ∀ v σ H Q, t' v σ H Q → t v σ H Q) : PGs X e t' := ⟨fun pins s σ H v u Q I r hw => h.run pins s σ H v u Q I r (q v σ H Q hw)⟩
mutual
theorem setT_st : ∀ (t : Tg) (d : PV) (env env' : EnvP) (st st' : Store), setT t d env st = .ok env' st' → st' = st
  | .name i, d, env, env', st, st', h => by cases h; rfl
  | .tup ts, d, env, env', st, st', h => by
    cases d <;> first | exact setTs_st ts _ env env' st st' h | cases h
theorem setTs_st : ∀ (ts : List Tg) (ds : List PV) (env env' : EnvP) (st st' : Store), setTs ts ds env st = .ok env' st' → st' = st
  | [], [], env, env', st, st', h => by cases h; rfl
  | [], _ :: _, _, _, _, _, h => by cases h
  | _ :: _, [], _, _, _, _, h => by cases h
  | t :: ts, x :: xs, env, env', st, st', h => by
    cases q : setT t x env st with
    | ok env1 st1 =>
      have h2 : setTs ts xs env1 st1 = .ok env' st' := by
        have : setTs (t :: ts) (x :: xs) env st = setTs ts xs env1 st1 := bind_ok q
        rw [← this]; exact h
      exact (setTs_st ts xs env1 env' st1 st' h2).trans (setT_st t x env env1 st st1 q)
    | ex e st1 =>
      have : setTs (t :: ts) (x :: xs) env st = .ex e st1 := bind_ex q
      rw [this] at h; cases h
    | no =>
      have : setTs (t :: ts) (x :: xs) env st = .no := bind_no q
      rw [this] at h; cases h
end
section
variable {X : Cx} {g : Gd} {W : XW} {e : Expr} {es : List Expr} {pos : Pos}
/-- the wish at a target, in one piece: what the end wants is asked at the very place -/
theorem Post.here {α : Type} {ρ : Rho} {H : Hp} {st : Store} {a : α} {Q : α → Store → Rho → Hp → Prop} (h : Post g W ρ H (.ok a st) (fun a st' ρ' H' => ρ' = ρ → H' = H → Q a st' ρ' H')) (S : Sim g ρ st H) : Q a st ρ H := h ρ H (Ext.refl _ _) S rfl rfl
theorem sg_name {i : Nat} {x : Str} (hN : X.N.Nodup) (hi : X.N[i]? = some x) (hx : Loc X.env.scope x) (hf : X.fn x = true ∨ X.env.scope.names.lookup x = some .local) : PG X (.Name x pos) (tG g W (.name i)) :=
  (pg_name hN hi hx hf).pimp fun v σ H Q ⟨ρ, env, st, d, E, S, hv, h⟩ => (h ρ H (Ext.refl _ _) S) rfl rfl _ (E.set i hv) ⟨by simp, fun j hj => by
    rw [List.getElem?_set_ne]
    intro z
    exact hj (by simp [Tg.slots, z])⟩
theorem sgs_nil : PGs X [] (tGs g W []) :=
  pgs_nil.pimp fun vs σ H Q ⟨ρ, env, st, ds, E, S, hv, h⟩ => by
    cases hv with
    | nil => exact ⟨rfl, (h ρ H (Ext.refl _ _) S) rfl rfl σ E (OffS.refl _ _)⟩
    | cons _ _ => exact h.elim
theorem assign_cons (e : Expr) (es : List Expr) (env : Env) (h : starred e = false) : (assignEach (e :: es) env).map (·.2) = assign e env :: (assignEach es env).map (·.2) := by
  cases e <;> first | rfl | (exact absurd h (by simp [starred]))
theorem sgs_cons {t : Tg} {ts : List Tg} (h1 : PG X e (tG g W t)) (h2 : PGs X es (tGs g W ts)) (hs : starred e = false) : PGs X (e :: es) (tGs g W (t :: ts)) :=
  (pgs_cons h1 h2 (assign_cons e es X.env hs)).pimp fun vs σ H Q ⟨ρ, env, st, ds, E, S, hv, h⟩ => by
    cases hv with
    | nil => exact h.elim
    | @cons v vs d ds hv hr =>
      refine ⟨v, vs, rfl, ρ, env, st, d, E, S, hv, ?_⟩
      cases q : setT t d env st with
      | ok env1 st1 =>
        have es := setT_st t d env env1 st st1 q
        subst es
        intro ρ' H' _ _ e1 e2 σ1 E1 O1
        subst e1; subst e2
        refine ⟨ρ', env1, st1, ds, E1, S, hr, ?_⟩
        have h3 : setTs (t :: ts) (d :: ds) env st1 = setTs ts ds env1 st1 := bind_ok q
        rw [h3] at h
        exact h.mono fun env' st' ρ2 H2 _ _ h4 e1 e2 σ' E' O' => h4 e1 e2 σ' E' (O1.trans O')
      | ex e' st1 =>
        have h3 : setTs (t :: ts) (d :: ds) env st = .ex e' st1 := bind_ex q
        rw [h3] at h; exact h
      | no =>
        have h3 : setTs (t :: ts) (d :: ds) env st = .no := bind_no q
        rw [h3] at h; exact h.elim
theorem assign_len : ∀ {es : List Expr} {env : Env}, noStar es = true → (assignEach es env).length = es.length ∧ (assignEach es env).findIdx? (·.1) = none
  | [], _, _ => ⟨rfl, rfl⟩
  | e :: es, env, h => by
    have h' : (!starred e) = true ∧ noStar es = true := by simpa [noStar] using h
    obtain ⟨i1, i2⟩ := assign_len (es := es) (env := env) h'.2
    have key : assignEach (e :: es) env = (false, assign e env) :: assignEach es env := by
      cases e <;> first | rfl | (exact absurd h'.1 (by simp [starred]))
    rw [key]
    refine ⟨by simp [i1], ?_⟩
    rw [List.findIdx?_cons, i2]
    rfl
theorem setTs_len : ∀ (ts : List Tg) (ds : List PV) (env : EnvP) (st : Store), ts.length ≠ ds.length → ∀ env' st', setTs ts ds env st ≠ .ok env' st'
  | [], [], _, _, h, _, _ => absurd rfl h
  | [], _ :: _, _, _, _, _, _ => fun z => by cases z
  | _ :: _, [], _, _, _, _, _ => fun z => by cases z
  | t :: ts, x :: xs, env, st, h, env', st' => fun z => by
    cases q : setT t x env st with
    | ok env1 st1 =>
      have : setTs (t :: ts) (x :: xs) env st = setTs ts xs env1 st1 := bind_ok q
      rw [this] at z
      exact setTs_len ts xs env1 st1 (fun e => h (by simp [e])) env' st' z
    | ex e st1 =>
      have : setTs (t :: ts) (x :: xs) env st = .ex e st1 := bind_ex q
      rw [this] at z; cases z
    | no =>
      have : setTs (t :: ts) (x :: xs) env st = .no := bind_no q
      rw [this] at z; cases z
/-- no exception comes of a target -/
theorem setTs_ex : ∀ (ts : List Tg) (ds : List PV) (env : EnvP) (st : Store) (e : Ex) (st' : Store), setTs ts ds env st ≠ .ex e st' ∧ ∀ t d, setT t d env st ≠ .ex e st' := by
  have A : ∀ (n : Nat), (∀ (t : Tg), sizeOf t < n → ∀ d env st e st', setT t d env st ≠ .ex e st') ∧ (∀ (ts : List Tg), sizeOf ts < n → ∀ ds env st e st', setTs ts ds env st ≠ .ex e st') := by
    intro n
    induction n with
    | zero => exact ⟨fun t h => absurd h (Nat.not_lt_zero _), fun t h => absurd h (Nat.not_lt_zero _)⟩
    | succ n ih =>
      refine ⟨fun t ht d env st e st' z => ?_, fun ts ht ds env st e st' z => ?_⟩
      · cases t with
        | name i => cases z
        | tup ts =>
          have hl : sizeOf ts < n := by simp at ht; omega
          cases d <;> first | exact ih.2 ts hl _ env st e st' z | cases z
      · cases ts with
        | nil => cases ds <;> cases z
        | cons t ts =>
          cases ds with
          | nil => cases z
          | cons x xs =>
            have h1 : sizeOf t < n := by simp at ht; omega
            have h2 : sizeOf ts < n := by simp at ht; omega
            cases q : setT t x env st with
            | ok env1 st1 =>
              have : setTs (t :: ts) (x :: xs) env st = setTs ts xs env1 st1 := bind_ok q
              rw [this] at z
              exact ih.2 ts h2 xs env1 st1 e st' z
            | ex e2 st1 => exact ih.1 t h1 x env st e2 st1 q
            | no =>
              have : setTs (t :: ts) (x :: xs) env st = .no := bind_no q
              rw [this] at z; cases z
  exact fun ts ds env st e st' => ⟨(A (sizeOf ts + 1)).2 ts (Nat.lt_succ_self _) ds env st e st', fun t d => (A (sizeOf t + 1)).1 t (Nat.lt_succ_self _) d env st e st'⟩
theorem sg_tup {ts : List Tg} {k : Nat} (hK : g.K = X.K) (hc : X.calm = true) (h : PGs X es (tGs g W ts)) (hl : es.length = ts.length) (hs : noStar es = true) : PG X (.Tuple es k pos) (tG g W (.tup ts)) := by
  obtain ⟨i1, i2⟩ := assign_len (es := es) (env := X.env) hs
  refine (pg_tup hc h i1 i2).pimp fun v σ H Q ⟨ρ, env, st, d, E, S, hv, hp⟩ => ?_
  have go : ∀ (xs : List PV) (vs : List V) (a : Addr), SqT X.K H a vs → RepL g ρ H vs xs → v = .ref a → setT (.tup ts) d env st = setTs ts xs env st → gTup X.K es.length (tGs g W ts) v σ H Q := by
    intro xs vs a hq hr hv e
    rw [e] at hp
    refine ⟨a, vs, hv, hq, ?_, ρ, env, st, xs, E, S, hr, ?_⟩
    · rw [hr.length, hl]
      by_cases hx : ts.length = xs.length
      · exact hx.symm
      · exfalso
        cases q : setTs ts xs env st with
        | ok env' st' => exact setTs_len ts xs env st hx env' st' q
        | ex e' st' => exact (setTs_ex ts xs env st e' st').1 q
        | no => rw [q] at hp; exact hp
    · exact hp
  cases hv with
  | tup hH hr => exact go _ _ _ (.of hH) hr rfl rfl
  | ctup hH hr => exact go _ _ _ (hK ▸ hH.sq) hr rfl rfl
  | _ => exact hp.elim

/-! ### comprehensions of one clause -/
def compLoop (t : Tg) (tt : Tn) (te : Dn) (env0 : EnvP) (gd : Guard) : List PV → List PV → M (List PV)
  | [], acc => pure acc
  | x :: xs, acc => do
    let env ← setT t x env0
    let b ← tt env
    if b then do
      let y ← te env
      if acc.length < sizeLine then do
        chk gd
        compLoop t tt te env0 gd xs (acc ++ [y])
      else M.fail
    else do
      chk gd
      compLoop t tt te env0 gd xs acc
def cComp (wi : Wn) (t : Tg) (tt : Tn) (te : Dn) (own : List Nat) : Ln := fun env => do
  let p ← wi env
  compLoop t tt te (wipeP env own) p.2 p.1 []
def cTrue : Tn := fun _ => pure true
theorem chk_ok {gd : Guard} {α : Type} {k : M α} {st : Store} {ρ : Rho} {H : Hp} {Q : α → Store → Rho → Hp → Prop} (h : Post g W ρ H ((do chk gd; k : M α) st) Q) : gdOk gd st = true ∧ Post g W ρ H (k st) Q := by
  by_cases hg : gdOk gd st = true
  · have : (do chk gd; k : M α) st = k st := bind_ok (by unfold chk; rw [if_pos hg])
    rw [this] at h
    exact ⟨hg, h⟩
  · have : (do chk gd; k : M α) st = .no := bind_no (by unfold chk; rw [if_neg hg])
    rw [this] at h
    exact h.elim
end
end PyI

/-! PyI8: a comprehension of one clause. -/
namespace PyI
open L2 PySem PySem.Spec PyProof.Rows

abbrev W0 : XW := fun _ _ _ _ => False
def noEx {α : Type} (m : M α) : M α := fun st => match m st with
  | .ok a st' => .ok a st'
  | _ => .no
theorem noEx_ok {α : Type} {m : M α} {st st' : Store} {a : α} (h : m st = .ok a st') : noEx m st = .ok a st' := by unfold noEx; rw [h]
theorem bind_inv {α β : Type} {m : M α} {k : α → M β} {st st' : Store} {b : β} (h : (m >>= k) st = .ok b st') : ∃ a st1, m st = .ok a st1 ∧ k a st1 = .ok b st' := by
  rw [bind_app] at h
  cases q : m st with
  | ok a st1 => rw [q] at h; exact ⟨a, st1, rfl, h⟩
  | ex e st1 => rw [q] at h; cases h
  | no => rw [q] at h; cases h
section
variable {g : Gd} {W : XW} {ρ ρ' : Rho} {H H' : Hp} {st : Store}
theorem Post.noEx {α : Type} {m : M α} {Q : α → Store → Rho → Hp → Prop} (h : Post g W ρ H (noEx m st) Q) : ∃ a st', m st = .ok a st' ∧ Post g W ρ H (.ok a st') Q := by
  unfold PyI.noEx at h
  cases q : m st with
  | ok a st1 => rw [q] at h; exact ⟨a, st1, rfl, h⟩
  | ex e st1 => rw [q] at h; exact h.elim
  | no => rw [q] at h; exact h.elim
theorem Post.of_ok {α : Type} {r : Res α} {a : α} {st' : Store} {Q : α → Store → Rho → Hp → Prop} (e : r = .ok a st') (h : ∀ ρ' H', Ext ρ H ρ' H' → Sim g ρ' st' H' → Q a st' ρ' H') : Post g W ρ H r Q := by
  subst e; exact h
theorem RepV.mono0 (pre : ρ <+: ρ') (ht : ∀ a xs, H a = some (.tup xs) → H' a = some (.tup xs)) (hf : ∀ a o u, H a = some (.frz o u) → H' a = some (.frz o u)) {v : V} {d : PV} (h : RepV g ρ H v d) : RepV g ρ' H' v d :=
  RepV.rec (motive_1 := fun v d _ => RepV g ρ' H' v d) (motive_2 := fun vs ds _ => RepL g ρ' H' vs ds) .non (fun b => .bl b) (fun i => .int i) (fun s => .str s) (fun h _ ih => .tup (ht _ _ h) ih) (fun h _ ih => .ctup h ih)
    (fun h _ ih => .ilst (h.elim (fun ⟨o, z⟩ => .inl ⟨o, hf _ _ _ z⟩) .inr) ih) (fun h => .obj (pre_get pre h)) (fun x => .fn x) (fun x => .kd x) .nil (fun _ _ a b => .cons a b) h
theorem RepL.mono0 (pre : ρ <+: ρ') (ht : ∀ a xs, H a = some (.tup xs) → H' a = some (.tup xs)) (hf : ∀ a o u, H a = some (.frz o u) → H' a = some (.frz o u)) : ∀ {vs : List V} {ds : List PV}, RepL g ρ H vs ds → RepL g ρ' H' vs ds
  | _, _, .nil => .nil
  | _, _, .cons a b => .cons (RepV.mono0 pre ht hf a) (RepL.mono0 pre ht hf b)
theorem HR.mono0 (pre : ρ <+: ρ') (ht : ∀ a xs, H a = some (.tup xs) → H' a = some (.tup xs)) (hf : ∀ a o u, H a = some (.frz o u) → H' a = some (.frz o u)) {u : HO} {ob : Ob} (h : HR g ρ H u ob) : HR g ρ' H' u ob := by
  cases u <;> cases ob <;> first | exact h.elim | exact RepL.mono0 pre ht hf h | exact ⟨h.1, RepL.mono0 pre ht hf h.2⟩ | exact ⟨h.1, h.2.1, RepL.mono0 pre ht hf h.2.2⟩
/-- a list that is no store's is written -/
theorem touch {D : Addr} {us ws : List V} (hD : H D = some (.lst us)) : (∀ a xs, H a = some (.tup xs) → (upd H D (.lst ws)) a = some (.tup xs)) ∧ ∀ a o u, H a = some (.frz o u) → (upd H D (.lst ws)) a = some (.frz o u) :=
  ⟨fun a xs h => by rw [upd_ne (fun z => by rw [z, hD] at h; cases h)]; exact h, fun a o u h => by rw [upd_ne (fun z => by rw [z, hD] at h; cases h)]; exact h⟩
theorem Sim.touch {D : Addr} {us ws : List V} (S : Sim g ρ st H) (hn : D ∉ ρ) (hD : H D = Option.some (.lst us)) : Sim g ρ st (upd H D (.lst ws)) :=
  ⟨S.len, S.nd, fun n a ob h1 h2 => by
    obtain ⟨u, e, r⟩ := S.at_ n a ob h1 h2
    exact ⟨u, by rw [upd_ne (fun z => hn (by rw [← z]; exact List.mem_of_getElem? h1))]; exact e, r.mono0 (List.prefix_refl _) (PyI.touch hD).1 (PyI.touch hD).2⟩, fun P hP => by
    obtain ⟨ps, e, t⟩ := S.tabs P hP
    exact ⟨ps, by rw [upd_ne (fun z => by rw [z, hD] at e; cases e)]; exact e, t⟩⟩
theorem Ext.touch {ρ1 : Rho} {H1 : Hp} {D : Addr} {ws : List V} (E : Ext ρ1 H1 ρ H) (h1 : H1 D = Option.none) : Ext ρ1 H1 ρ (upd H D (.lst ws)) :=
  ⟨E.pre, E.new, fun a o h => by
    have hne : a ≠ D := ne_of_none h h1
    obtain ⟨o', e⟩ := E.there a o h
    exact ⟨o', by rw [upd_ne hne]; exact e⟩, fun a o h h2 h3 => by
    have hne : a ≠ D := ne_of_none h h1
    rw [upd_ne hne]; exact E.keep a o h h2 h3⟩
theorem EnvR.mono0 {σ : L2.St} {env : EnvP} (h : EnvR g ρ H σ env) (pre : ρ <+: ρ') (ht : ∀ a xs, H a = some (.tup xs) → H' a = some (.tup xs)) (hf : ∀ a o u, H a = some (.frz o u) → H' a = some (.frz o u)) : EnvR g ρ' H' σ env :=
  ⟨h.len, fun i d e => by
    obtain ⟨v, e1, r⟩ := h.at_ i d e
    exact ⟨v, e1, r.mono0 pre ht hf⟩⟩
theorem Ext.notin {a : Addr} {o : HO} (E : Ext ρ H ρ' H') (h1 : a ∉ ρ) (h : H a = Option.some o) : a ∉ ρ' := fun hm => by
  rcases E.new a hm with z | z
  · exact h1 z
  · rw [h] at z; cases z
end
theorem wipe_wipe {σ : L2.St} {vs : List Nat} : L2.wipe (L2.wipe σ vs) vs = L2.wipe σ vs := List.ext_getElem? fun j => by
  rw [wipe_at]
  split
  · rename_i h
    rw [wipe_at, if_pos ⟨h.1, by rw [← L2.wipe_length σ vs]; exact h.2⟩]
  · rfl
def cCompN (wi : Wn) (t : Tg) (tt : Tn) (te : Dn) (own : List Nat) : Ln := fun env => do
  let p ← wi env
  noEx (compLoop t tt te (wipeP env own) p.2 p.1 [])
section
variable {X : Cx} {g : Gd} {W : XW} {e : Expr} {es : List Expr} {pos : Pos}
theorem pts0 : PTs X [] (tT g W cTrue) := ⟨fun pins s σ H Q I hw => pts_nil.run pins s σ H Q I (by
  obtain ⟨ρ, env, st, E, S, h⟩ := hw
  exact Post.pure h S)⟩
theorem pts1 {c : Expr} {t : Tn} (h : PT X c (tT g W t)) : PTs X [c] (tT g W t) := pts_one h
theorem tLc_of {wi : Wn} {t : Tg} {tt : Tn} {te : Dn} {vs : List Nat} (ht : ∀ j ∈ t.slots, j ∈ vs) {σ : L2.St} {H : Hp} {Q : VK} (h : tL g W (cCompN wi t tt te vs) σ H Q) :
    tLc (tW g W wi) (tG g W0 t) (tT g W0 tt) (tI g W0 te) vs σ H Q := by
  obtain ⟨ρ, env, st, E, S, h⟩ := h
  refine ⟨ρ, env, st, E, S, (Post.bind h).mono fun p st1 ρ1 H1 x1 S1 h1 hg J wok D hD => ?_⟩
  obtain ⟨rs, stE, hres, hfin⟩ := h1.noEx
  obtain ⟨G, Y, wk, hG, hY⟩ := wok.ex
  have E1 := (E.ext S x1).wipe vs
  refine lc_it wk (fun i H2 => ∃ ρ2 st2 acc us, Ext ρ1 H1 ρ2 H2 ∧ Sim g ρ2 st2 H2 ∧ D ∉ ρ2 ∧ H2 D = some (.lst us) ∧ RepL g ρ2 H2 us acc ∧ gdOk p.2 st2 = true ∧ EnvR g ρ2 H2 (L2.wipe σ vs) (wipeP env vs) ∧
    compLoop t tt te (wipeP env vs) p.2 (p.1.drop i) acc st2 = .ok rs stE) ?_ ?_ ?_ ?_
  · exact ⟨ρ1, st1, [], [], S1.extFresh hD _, S1.fresh hD _, S1.notin_none hD, upd_same, .nil, hg, E1.ext S1 (S1.extFresh hD _), by rw [List.drop_zero]; exact hres⟩
  · rintro i H2 _ ⟨ρ2, st2, acc, us, x2, S2, _, _, _, hg2, _, _⟩
    exact hG ρ2 st2 H2 x2 S2 hg2
  · rintro i x H2 H3 hi ⟨ρ2, st2, acc, us, x2, S2, hDn, hDl, hr, hg2, E2, hres2⟩ y
    obtain ⟨d, hd, x3, S3, hv⟩ := hY i H2 x H3 ρ2 st2 hi x2 S2 hg2 y
    have hdrop : p.1.drop i = d :: p.1.drop (i + 1) := by
      obtain ⟨hl, e⟩ := List.getElem?_eq_some_iff.mp hd
      rw [List.drop_eq_getElem_cons hl, e]
    rw [hdrop] at hres2
    obtain ⟨env1, st3, q1, hres3⟩ := bind_inv (show (setT t d (wipeP env vs) >>= _) st2 = _ from hres2)
    obtain rfl := setT_st t d _ env1 st2 st3 q1
    have hDl3 := lst_still hDn hDl x3
    have hDn3 := x3.notin hDn hDl
    refine ⟨ρ2, wipeP env vs, st3, d, E2.ext S2 x3, S3, hv, Post.of_ok q1 fun ρ' H' _ _ e1 e2 σ' E' O' => ⟨(O'.wipe ht).trans wipe_wipe, ?_⟩⟩
    subst e1; subst e2
    obtain ⟨b, st4, q2, hres4⟩ := bind_inv hres3
    refine ⟨ρ', env1, st3, E', S3, Post.of_ok q2 fun ρ4 H4 x4 S4 => ?_⟩
    have hDl4 := lst_still hDn3 hDl3 x4
    have hDn4 := x4.notin hDn3 hDl3
    have x24 := x3.trans x4
    cases b with
    | false =>
      refine iteF ?_
      obtain ⟨_, st5, q3, hres5⟩ := bind_inv (show (chk p.2 >>= fun _ => compLoop t tt te (wipeP env vs) p.2 (p.1.drop (i + 1)) acc) st4 = .ok rs stE from hres4)
      unfold chk at q3
      split at q3
      · rename_i hg4
        cases q3
        exact ⟨ρ4, st4, acc, us, x2.trans x24, S4, hDn4, hDl4, hr.ext S2 x24, hg4, E2.ext S2 x24, hres5⟩
      · cases q3
    | true =>
      refine iteT ?_
      obtain ⟨z, st5, q3, hres5⟩ := bind_inv (show (te env1 >>= fun y => if acc.length < sizeLine then (do chk p.2; compLoop t tt te (wipeP env vs) p.2 (p.1.drop (i + 1)) (acc ++ [y])) else M.fail) st4 = .ok rs stE from hres4)
      refine ⟨ρ4, env1, st4, E'.ext S3 x4, S4, Post.of_ok q3 fun ρ5 H5 x5 S5 v5 hv5 => ?_⟩
      have hDl5 := lst_still hDn4 hDl4 x5
      have hDn5 := x5.notin hDn4 hDl4
      have x25 := x24.trans x5
      have hr5 := hr.ext S2 x25
      by_cases hz : acc.length < sizeLine
      · rw [if_pos hz] at hres5
        obtain ⟨_, st6, q4, hres6⟩ := bind_inv hres5
        unfold chk at q4
        split at q4
        · rename_i hg5
          cases q4
          refine ⟨us, hDl5, by rw [hr5.length]; exact hz, ρ5, st5, acc ++ [z], us ++ [v5], (x2.trans x25).touch hD, S5.touch hDn5 hDl5, hDn5, upd_same, ?_, hg5, ?_, hres6⟩
          · exact (hr5.append (.one hv5)).mono0 (List.prefix_refl _) (touch hDl5).1 (touch hDl5).2
          · exact (E2.ext S2 x25).mono0 (List.prefix_refl _) (touch hDl5).1 (touch hDl5).2
        · cases q4
      · rw [if_neg hz] at hres5; cases hres5
  · rintro H2 ⟨ρ2, st2, acc, us, x2, S2, hDn, hDl, hr, hg2, E2, hres2⟩
    rw [List.drop_length] at hres2
    cases hres2
    exact (hfin ρ2 H2 x2 S2) D us hDn (x1.none hD) hDl hr
variable {elt tg iter : Expr} {ifs : List Expr} {scope : Scope} {own : List (Str × Nat)} {wi : Wn} {t : Tg} {tt : Tn} {te : Dn}
theorem s_comp (hc : X.calm = true) (hN : X.N.Nodup) (hi : PI X tg iter (tW g W wi)) (ok : BlkOk X.N X.env.scope scope own) (ht : ∀ j ∈ t.slots, j ∈ own.map (·.2))
    (hg : ∀ (s : Shared) (H : Hp) (C : Addr) (cl : List (Str × Addr)) (fp : List Addr), PG (X.blk s H scope (compEnvC scope cl C X.env) fp) tg (tG g W0 t)) (hts : ∀ (s : Shared) (H : Hp) (C : Addr) (cl : List (Str × Addr)) (fp : List Addr), PTs (X.blk s H scope (compEnvC scope cl C X.env) fp) ifs (tT g W0 tt))
    (he : ∀ (s : Shared) (H : Hp) (C : Addr) (cl : List (Str × Addr)) (fp : List Addr), PE (X.blk s H scope (compEnvC scope cl C X.env) fp) elt (tI g W0 te)) (hs : ∀ x, foldedSetIterable iter X.env x = pure x) :
    PE X (.ListComp elt [⟨tg, iter, ifs, 0⟩] scope pos) (tL g W (cCompN wi t tt te (own.map (·.2)))) :=
  (pe_lc hc hN hi ok hg hts he hs).pimp fun _ _ _ h => tLc_of ht h
end
end PyI

/-! PyI9: joined lists, texts, methods of lists and texts, isinstance, written dicts. -/
namespace PyI
open L2 PySem PySem.Spec PyProof.Rows

/-! ### list + list, nobody else holds them -/
def cCat (fa fb : Ln) : Ln := fun env => do
  let xs ← fa env
  let ys ← fb env
  if xs.length + ys.length ≤ sizeLine then pure (xs ++ ys) else M.fail
section
variable {X : Cx} {g : Gd} {W : XW} {a b e o : Expr} {es : List Expr} {f fa fb fo : Dn} {fl fm : Ln} {fs : List Dn} {pos apos : Pos}
theorem s_cat (ha : PE X a (tL g W fl)) (hb : PE X b (tL g W fm)) : PE X (.BinOp a .Add b pos) (tL g W (cCat fl fm)) :=
  (pe_op op_cat ha hb).pimp fun σ H Q ⟨ρ, env, st, E, S, h⟩ => ⟨ρ, env, st, E, S, h.bind.mono fun xs st1 ρ1 H1 x1 S1 h1 p vs hp hp0 hH hv =>
    ⟨ρ1, env, st1, E.ext S x1, S1, h1.bind.mono fun ys st2 ρ2 H2 x2 S2 h2 q us hq hq0 hHq hu => by
      have hH2 : H2 p = some (.lst vs) := lst_still hp hH x2
      have hv2 := hv.ext S1 x2
      by_cases hz : xs.length + ys.length ≤ sizeLine
      · rw [if_pos hz] at h2
        refine ⟨p, q, vs, us, rfl, rfl, hH2, hHq, by rw [hv2.length, hu.length]; exact hz, fun r hr => ?_⟩
        exact (h2 ρ2 _ (S2.extFresh hr (.lst (vs ++ us))) (S2.fresh hr _)) r _ (S2.notin_none hr) ((x1.trans x2).none hr) upd_same ((hv2.append hu).ext S2 (S2.extFresh hr _))
      · rw [if_neg hz] at h2; exact h2.elim⟩⟩
theorem opKeep_of {Q : VK} {ρ : Rho} {H : Hp} {st : Store} {xs : List PV} {vs : List V} (S : Sim g ρ st H) (hv : RepL g ρ H vs xs) (h : Post g W ρ H (newLst xs st) (fun z _ ρ' H' => ∀ v, RepV g ρ' H' v z → Q v H')) : ∀ p, H p = none → Q (.ref p) (upd H p (.lst vs)) := fun p hp => by
  have E' := S.extNew hp (.lst vs)
  refine (h _ _ E' (S.new hp (show HR g _ _ (.lst vs) (.lst xs) from hv.ext S E'))) (.ref p) (.obj ?_)
  rw [← S.len]; simp

/-! ### methods of texts -/
/-- F is what the method does -/
def MetS (g : Gd) (W : XW) (F : PV → List PV → M PV) (r : V → List V → Hp → VK → Prop) : Prop := ∀ {ρ : Rho} {st : Store} {H : Hp} {v : V} {d : PV} {vs : List V} {xs : List PV} {Q : VK}, Sim g ρ st H → RepV g ρ H v d → RepL g ρ H vs xs →
  Post g W ρ H (F d xs st) (fun z _ ρ' H' => ∀ v, RepV g ρ' H' v z → Q v H') → r v vs H Q
def isStr : PV → Bool
  | .str _ => true
  | _ => false
def cMet0 (F : PV → List PV → M PV) (fo : Dn) : Dn := fun env => do
  let d ← fo env
  if isStr d then F d [] else M.fail
def cMet1 (F : PV → List PV → M PV) (fo fa : Dn) : Dn := fun env => do
  let d ← fo env
  if isStr d then do
    let x ← fa env
    F d [x]
  else M.fail
theorem isStr_of {ρ : Rho} {H : Hp} {v : V} {d : PV} (h : RepV g ρ H v d) (e : isStr d = true) : ∃ s, v = .str s ∧ d = .str s := by
  cases h <;> first | (exact ⟨_, rfl, rfl⟩) | (cases e)
theorem s_met0 {id : String} {name : Str} {F : PV → List PV → M PV} {r : V → List V → Hp → VK → Prop} (slot : Slot "str" name id) (ty : typeOf (.builtin id) = pure (.type "method_descriptor")) (rule : MtR X id r) (hF : MetS g W F r) (ho : PE X o (tI g W fo))
    (hbase : attributeBase o name X.env (eval o X.env) = eval o X.env) (hline : (apos.endLine == pos.line) = true) : PE X (.Call (.Attribute o name apos) [] [] pos) (tI g W (cMet0 F fo)) :=
  (pe_m0 slot ty rule ho hbase hline).pimp fun σ H Q ⟨ρ, env, st, E, S, h⟩ => ⟨ρ, env, st, E, S, h.bind.mono fun d st1 ρ1 H1 x1 S1 h1 v hv => by
    by_cases hd : isStr d = true
    · rw [if_pos hd] at h1
      obtain ⟨s, rfl, rfl⟩ := isStr_of hv hd
      exact ⟨⟨s, rfl⟩, hF S1 hv .nil h1⟩
    · rw [if_neg hd] at h1; exact h1.elim⟩
theorem s_met1 {id : String} {name : Str} {F : PV → List PV → M PV} {r : V → List V → Hp → VK → Prop} (slot : Slot "str" name id) (ty : typeOf (.builtin id) = pure (.type "method_descriptor")) (rule : MtR X id r) (hF : MetS g W F r) (ho : PE X o (tI g W fo)) (ha : PE X a (tI g W fa)) (hs : starred a = false)
    (hbase : attributeBase o name X.env (eval o X.env) = eval o X.env) (hline : (apos.endLine == pos.line) = true) : PE X (.Call (.Attribute o name apos) [a] [] pos) (tI g W (cMet1 F fo fa)) :=
  (pe_m1 slot ty rule ho ha (star_plain hs _ _) hbase hline).pimp fun σ H Q ⟨ρ, env, st, E, S, h⟩ => ⟨ρ, env, st, E, S, h.bind.mono fun d st1 ρ1 H1 x1 S1 h1 v hv => by
    by_cases hd : isStr d = true
    · rw [if_pos hd] at h1
      obtain ⟨s, rfl, rfl⟩ := isStr_of hv hd
      exact ⟨⟨s, rfl⟩, ρ1, env, st1, E.ext S x1, S1, h1.bind.mono fun x st2 ρ2 H2 x2 S2 h2 u hu => hF S2 (.str s) (.cons hu .nil) h2⟩
    · rw [if_neg hd] at h1; exact h1.elim⟩
/-- .. its argument a list that nobody else holds -/
def cMetL (F : PV → List PV → M PV) (fo : Dn) (fl : Ln) : Dn := fun env => do
  let d ← fo env
  if isStr d then do
    let xs ← fl env
    F d xs
  else M.fail
def MetL (g : Gd) (W : XW) (F : PV → List PV → M PV) (r : V → List V → Hp → VK → Prop) : Prop := ∀ {ρ : Rho} {st : Store} {H : Hp} {s : Str} {a : Addr} {vs : List V} {xs : List PV} {Q : VK}, Sim g ρ st H → H a = some (.lst vs) → RepL g ρ H vs xs →
  Post g W ρ H (F (.str s) xs st) (fun z _ ρ' H' => ∀ v, RepV g ρ' H' v z → Q v H') → r (.str s) [.ref a] H Q
theorem s_metL {id : String} {name : Str} {F : PV → List PV → M PV} {r : V → List V → Hp → VK → Prop} (slot : Slot "str" name id) (ty : typeOf (.builtin id) = pure (.type "method_descriptor")) (rule : MtR X id r) (hF : MetL g W F r) (ho : PE X o (tI g W fo)) (ha : PE X a (tL g W fl)) (hs : starred a = false)
    (hbase : attributeBase o name X.env (eval o X.env) = eval o X.env) (hline : (apos.endLine == pos.line) = true) : PE X (.Call (.Attribute o name apos) [a] [] pos) (tI g W (cMetL F fo fl)) :=
  (pe_m1 slot ty rule ho ha (star_plain hs _ _) hbase hline).pimp fun σ H Q ⟨ρ, env, st, E, S, h⟩ => ⟨ρ, env, st, E, S, h.bind.mono fun d st1 ρ1 H1 x1 S1 h1 v hv => by
    by_cases hd : isStr d = true
    · rw [if_pos hd] at h1
      obtain ⟨s, rfl, rfl⟩ := isStr_of hv hd
      exact ⟨⟨s, rfl⟩, ρ1, env, st1, E.ext S x1, S1, h1.bind.mono fun xs st2 ρ2 H2 x2 S2 h2 p vs hp hp0 hH hvs => hF S2 hH hvs h2⟩
    · rw [if_neg hd] at h1; exact h1.elim⟩
def strsOf : List PV → Option (List Str)
  | [] => some []
  | .str s :: r => (strsOf r).map (s :: ·)
  | _ :: _ => none
theorem strs_of {ρ : Rho} {H : Hp} : ∀ {vs : List V} {xs : List PV} {ss : List Str}, RepL g ρ H vs xs → strsOf xs = some ss → vs = ss.map V.str
  | _, _, _, .nil, e => by cases e; rfl
  | _, x :: xs, bs, .cons h r, e => by
    cases h <;> first | (simp [strsOf] at e; done) | skip
    rename_i s
    cases q : strsOf xs with
    | none => simp [strsOf, q] at e
    | some cs =>
      simp [strsOf, q] at e; subst e
      rw [List.map_cons, strs_of r q]
theorem strsOf_map : ∀ (ss : List Str), strsOf (ss.map PV.str) = some ss
  | [] => rfl
  | s :: r => by rw [List.map_cons, strsOf, strsOf_map r]; rfl
theorem RepL.strs {ρ : Rho} {H : Hp} : ∀ (ss : List Str), RepL g ρ H (ss.map V.str) (ss.map PV.str)
  | [] => .nil
  | s :: r => .cons (.str s) (RepL.strs r)
def joinP (s : Str) (xs : List PV) : M PV := fun st => match strsOf xs with
  | some ys => if (ys.map (·.length)).sum + ys.length * s.length ≤ 16777216 then .ok (.str (Txt.join s ys)) st else .no
  | none => .no
def mJoin : PV → List PV → M PV
  | .str s, [d] => fun st => match d with
    | .tup xs => joinP s xs st
    | .ctup xs => joinP s xs st
    | .ilst xs => joinP s xs st
    | .obj n => match st[n]? with
      | some (.lst xs) => joinP s xs st
      | _ => .no
    | _ => .no
  | _, _ => M.fail
def mJoinL : PV → List PV → M PV
  | .str s, xs => joinP s xs
  | _, _ => M.fail
def rJoin (K : PySem.W.Frag) : V → List V → Hp → VK → Prop := fun x xs H Q => ∃ a p, ∃ ys : List Str, x = .str a ∧ xs = [.ref p] ∧ (SqL K H p (ys.map V.str) ∨ SqT K H p (ys.map V.str)) ∧ (ys.map (·.length)).sum + ys.length * a.length ≤ 16777216 ∧ Q (.str (Txt.join a ys)) H
theorem join_of {ρ : Rho} {st : Store} {H : Hp} {s : Str} {p : Addr} {vs : List V} {xs : List PV} {Q : VK} (S : Sim g ρ st H) (hq : ∀ ys : List Str, vs = ys.map V.str → SqL X.K H p (ys.map V.str) ∨ SqT X.K H p (ys.map V.str)) (hv : RepL g ρ H vs xs)
    (h : Post g W ρ H (joinP s xs st) (fun z _ ρ' H' => ∀ v, RepV g ρ' H' v z → Q v H')) : rJoin X.K (.str s) [.ref p] H Q := by
  unfold joinP at h
  cases q : strsOf xs with
  | none => rw [q] at h; exact h.elim
  | some ys =>
    rw [q] at h
    by_cases hz : (ys.map (·.length)).sum + ys.length * s.length ≤ 16777216
    · simp only [if_pos hz] at h
      exact ⟨s, p, ys, rfl, rfl, hq ys (strs_of hv q), hz, (Post.pure h S) _ (.str _)⟩
    · simp only [if_neg hz] at h; exact h.elim
theorem ml_join : MetL g W mJoinL (rJoin X.K) := fun S hH hv h => join_of S (fun ys e => .inl (.of (e ▸ hH))) hv h
theorem ms_join (hK : g.K = X.K) : MetS g W mJoin (rJoin X.K) := by
  intro ρ st H v d vs xs Q S hd hv h
  unfold mJoin at h
  split at h
  · cases hv with
    | cons hx hr =>
      cases hr
      cases hd
      cases hx with
      | @tup p vs xs hp hr => exact join_of S (fun ys e => .inr (.of (e ▸ hp))) hr h
      | @ctup p vs xs hp hr => exact join_of S (fun ys e => .inr (e ▸ hK ▸ hp.sq)) hr h
      | @ilst p vs xs hp hr => exact join_of S (fun ys e => .inl (e ▸ hK ▸ hp.sq)) hr h
      | @obj p n hn =>
        simp only at h
        cases q : st[n]? with
        | none => rw [q] at h; exact h.elim
        | some ob =>
          rw [q] at h
          cases ob with
          | lst xs =>
            obtain ⟨w, eu, r⟩ := S.at_ n p _ hn q
            obtain ⟨vs, rfl, r⟩ := HR.lst_inv r
            exact join_of S (fun ys e => .inl (.of (e ▸ eu))) r h
          | _ => exact h.elim
      | _ => exact h.elim
  · exact h.elim
/-- text.split(sep): a list that nobody else holds -/
def splitP : PV → PV → M (List PV)
  | .str s, .str b => if (b.length == 0) = false ∧ s.length + 2 ≤ sizeLine then pure ((Txt.split s b).map PV.str) else M.fail
  | _, _ => M.fail
def cSplit (fo fa : Dn) : Ln := fun env => do
  let d ← fo env
  if isStr d then do
    let e ← fa env
    splitP d e
  else M.fail
theorem s_split (ho : PE X o (tI g W fo)) (ha : PE X a (tI g W fa)) (hs : starred a = false) (hbase : attributeBase o "split" X.env (eval o X.env) = eval o X.env) (hline : (apos.endLine == pos.line) = true) : PE X (.Call (.Attribute o "split" apos) [a] [] pos) (tL g W (cSplit fo fa)) :=
  (pe_split ho ha (star_plain hs _ _) hbase hline).pimp fun σ H Q ⟨ρ, env, st, E, S, h⟩ => ⟨ρ, env, st, E, S, h.bind.mono fun d st1 ρ1 H1 x1 S1 h1 v hv => by
    by_cases hd : isStr d = true
    · rw [if_pos hd] at h1
      obtain ⟨s, rfl, rfl⟩ := isStr_of hv hd
      refine ⟨⟨s, rfl⟩, ρ1, env, st1, E.ext S x1, S1, h1.bind.mono fun e st2 ρ2 H2 x2 S2 h2 u hu => ?_⟩
      cases hu with
      | str b =>
        simp only [splitP] at h2
        by_cases hz : (b.length == 0) = false ∧ s.length + 2 ≤ sizeLine
        · rw [if_pos hz] at h2
          exact ⟨s, b, rfl, rfl, hz.1, hz.2, fun p hp => (h2 ρ2 _ (S2.extFresh hp (.lst _)) (S2.fresh hp _)) p _ (S2.notin_none hp) ((x1.trans x2).none hp) upd_same (RepL.strs _)⟩
        · rw [if_neg hz] at h2; exact h2.elim
      | _ => exact h2.elim
    · rw [if_neg hd] at h1; exact h1.elim⟩

/-! ### methods of lists -/
/-- the tuple kinds and sizes by which a method of T may be asked -/
def tyOk (T : String) (st : Store) : PV → Bool
  | .obj n => match st[n]? with
    | some (.lst _) => T == "list"
    | some (.dK _) => T == "dict"
    | some (.dT _) => T == "dict"
    | _ => false
  | .tup _ => T == "tuple"
  | .ctup _ => T == "tuple"
  | _ => false
def cMet (T : String) (F : PV → List PV → M PV) (fo : Dn) (fs : Ln) : Dn := fun env => do
  let d ← fo env
  fun st => if tyOk T st d then (do
    let xs ← fs env
    F d xs) st else .no
theorem s_met {id T : String} {name : Str} {F : PV → List PV → M PV} {r : V → List V → Hp → VK → Prop} {fs : Ln} (hT : ∀ {ρ st H v d}, Sim g ρ st H → RepV g ρ H v d → tyOk T st d = true → tyV X.K T v H) (pa : PlainAttrs T) (slot : Slot T name id) (ty : typeOf (.builtin id) = pure (.type "method_descriptor")) (rule : MtR X id r) (hF : MetS g W F r)
    (ho : PE X o (tI g W fo)) (ha : PA X (e :: es) (tA g W fs)) (hs : noStar (e :: es) = true) (hl : (e :: es).length < 29)
    (hbase : attributeBase o name X.env (eval o X.env) = eval o X.env) (hline : (apos.endLine == pos.line) = true) : PE X (.Call (.Attribute o name apos) (e :: es) [] pos) (tI g W (cMet T F fo fs)) :=
  have h' : (!starred e) = true ∧ noStar es = true := by simpa [noStar] using hs
  (pe_bm pa slot ty rule ho ha hbase (few_of hs (by omega)) hline (star_plain (by simpa using h'.1) _ _) (star_all h'.2).1).pimp fun σ H Q ⟨ρ, env, st, E, S, h⟩ => ⟨ρ, env, st, E, S, h.bind.mono fun d st1 ρ1 H1 x1 S1 h1 v hv => by
    by_cases hd : tyOk T st1 d = true
    · rw [if_pos hd] at h1
      exact ⟨hT S1 hv hd, ρ1, env, st1, E.ext S x1, S1, h1.bind.mono fun xs st2 ρ2 H2 x2 S2 h2 vs hvs => hF S2 (hv.ext S1 x2) hvs h2⟩
    · rw [if_neg hd] at h1; exact h1.elim⟩
theorem s_metN {id T : String} {name : Str} {F : PV → List PV → M PV} {r : V → List V → Hp → VK → Prop} (hT : ∀ {ρ st H v d}, Sim g ρ st H → RepV g ρ H v d → tyOk T st d = true → tyV X.K T v H) (pa : PlainAttrs T) (slot : Slot T name id) (ty : typeOf (.builtin id) = pure (.type "method_descriptor")) (rule : MtR X id r) (hF : MetS g W F r)
    (ho : PE X o (tI g W fo)) (hbase : attributeBase o name X.env (eval o X.env) = eval o X.env) (hline : (apos.endLine == pos.line) = true) : PE X (.Call (.Attribute o name apos) [] [] pos) (tI g W (cMet T F fo (cArgs []))) :=
  (pe_bm0 pa slot ty rule ho hbase hline).pimp fun σ H Q ⟨ρ, env, st, E, S, h⟩ => ⟨ρ, env, st, E, S, h.bind.mono fun d st1 ρ1 H1 x1 S1 h1 v hv => by
    by_cases hd : tyOk T st1 d = true
    · rw [if_pos hd] at h1
      exact ⟨hT S1 hv hd, hF S1 hv .nil h1⟩
    · rw [if_neg hd] at h1; exact h1.elim⟩
end
end PyI

/-! PyI10: append, extend, pop; isinstance; written dicts; any of a text's signs. -/
namespace PyI
open L2 PySem PySem.Spec PyProof.Rows
section
variable {X : Cx} {g : Gd} {W : XW} {a b e o : Expr} {es : List Expr} {f fa fb fo : Dn} {fl fm fs : Ln} {pos apos : Pos}
theorem lst_at {ρ : Rho} {st : Store} {H : Hp} {n : Nat} {p : Addr} {xs : List PV} (S : Sim g ρ st H) (hn : ρ[n]? = some p) (q : st[n]? = some (.lst xs)) : ∃ vs, H p = some (.lst vs) ∧ RepL g ρ H vs xs := by
  obtain ⟨u, eu, r⟩ := S.at_ n p _ hn q
  obtain ⟨vs, rfl, r⟩ := HR.lst_inv r
  exact ⟨vs, eu, r⟩
theorem ty_list {ρ : Rho} {st : Store} {H : Hp} {v : V} {d : PV} (S : Sim g ρ st H) (hv : RepV g ρ H v d) (h : tyOk "list" st d = true) : tyV X.K "list" v H := by
  cases hv <;> first | (simp [tyOk] at h; done) | skip
  rename_i p n hn
  simp only [tyOk] at h
  split at h
  · rename_i xs q
    obtain ⟨vs, hH, _⟩ := lst_at S hn q
    exact .inl ⟨rfl, vs, .of hH⟩
  all_goals exact absurd h (by decide)
/-- a list is written anew -/
theorem Post.setLst {ρ : Rho} {H : Hp} {st : Store} {n : Nat} {p : Addr} {vs : List V} {xs : List PV} {d : PV} {v : V} {Q : VK} (S : Sim g ρ st H) (hn : ρ[n]? = some p) (hr : RepL g ρ H vs xs) (hd : RepV g ρ H v d)
    (h : Post g W ρ H (.ok d (st.set n (.lst xs))) (fun z _ ρ' H' => ∀ v, RepV g ρ' H' v z → Q v H')) : Q v (upd H p (.lst vs)) :=
  (h ρ _ (S.extSet hn (.lst vs)) (S.set hn (show HR g ρ H (.lst vs) (.lst xs) from hr))) v (hd.ext S (S.extSet hn _))
def mAppend : PV → List PV → M PV
  | .obj n, [x] => fun st => match st[n]? with
    | some (.lst xs) => if xs.length < sizeLine then .ok .non (st.set n (.lst (xs ++ [x]))) else .no
    | _ => .no
  | _, _ => M.fail
theorem ms_append : MetS g W mAppend rAppend := by
  intro ρ st H v d vs xs Q S hd hv h
  unfold mAppend at h
  split at h
  · rename_i n x
    cases hd with
    | @obj p _ hn =>
    cases hv with
    | cons hx hr =>
    cases hr
    split at h
    · rename_i ys q
      obtain ⟨us, hH, r⟩ := lst_at S hn q
      by_cases hz : ys.length < sizeLine
      · rw [if_pos hz] at h
        exact ⟨p, us, _, rfl, rfl, hH, by rw [r.length]; exact hz, Post.setLst S hn (r.append (.one hx)) .non h⟩
      · rw [if_neg hz] at h; exact h.elim
    · exact h.elim
  · exact h.elim
def mExtend : PV → List PV → M PV
  | .obj n, [.obj m] => fun st => match st[n]?, st[m]? with
    | some (.lst xs), some (.lst ys) => if xs.length + ys.length ≤ sizeLine then .ok .non (st.set n (.lst (xs ++ ys))) else .no
    | _, _ => .no
  | _, _ => M.fail
theorem ms_extend : MetS g W mExtend rExtend := by
  intro ρ st H v d vs xs Q S hd hv h
  unfold mExtend at h
  split at h
  · rename_i n m
    cases hd with
    | @obj p _ hn =>
    cases hv with
    | cons hx hr =>
    cases hr
    cases hx with
    | @obj p2 _ hn2 =>
    split at h
    · rename_i ys zs q q2
      obtain ⟨us, hH, r⟩ := lst_at S hn q
      obtain ⟨us2, hH2, r2⟩ := lst_at S hn2 q2
      by_cases hz : ys.length + zs.length ≤ sizeLine
      · rw [if_pos hz] at h
        exact ⟨p, p2, us, us2, rfl, rfl, hH, hH2, by rw [r.length, r2.length]; exact hz, Post.setLst S hn (r.append r2) .non h⟩
      · rw [if_neg hz] at h; exact h.elim
    · exact h.elim
  · exact h.elim
def mPop : PV → List PV → M PV
  | .obj n, [] => fun st => match st[n]? with
    | some (.lst xs) => match xs[xs.length - 1]? with
      | some x => .ok x (st.set n (.lst xs.dropLast))
      | none => .no
    | _ => .no
  | .obj n, [.int i] => fun st => match st[n]? with
    | some (.lst xs) => if -(2 ^ 63) ≤ i ∧ i < 2 ^ 63 then (match seqIndex? i xs.length with
      | some k => match xs[k]? with
        | some x => .ok x (st.set n (.lst (xs.eraseIdx k)))
        | none => .no
      | none => .no) else .no
    | _ => .no
  | _, _ => M.fail
def rPops : V → List V → Hp → VK → Prop := fun x vs H Q => rPop x vs H Q ∨ rPopAt x vs H Q
theorem mt_pops : MtR X "list.pop" rPops := fun pins s σ H x xs v us Q I rx rv h => h.elim (mt_pop pins s σ H x xs v us Q I rx rv) (mt_popAt pins s σ H x xs v us Q I rx rv)
theorem ms_pop : MetS g W mPop rPops := by
  intro ρ st H v d vs xs Q S hd hv h
  unfold mPop at h
  split at h
  · rename_i n
    cases hd with
    | @obj p _ hn =>
    cases hv
    split at h
    · rename_i ys q
      obtain ⟨us, hH, r⟩ := lst_at S hn q
      cases q1 : ys[ys.length - 1]? with
      | none => rw [q1] at h; exact h.elim
      | some x =>
        rw [q1] at h
        obtain ⟨v, hv, rv⟩ := r.get q1
        exact .inl ⟨p, us, v, rfl, rfl, hH, by rw [r.length]; exact hv, Post.setLst S hn r.dropLast rv h⟩
    · exact h.elim
  · rename_i n i
    cases hd with
    | @obj p _ hn =>
    cases hv with
    | cons hx hr =>
    cases hr
    cases hx
    split at h
    · rename_i ys q
      obtain ⟨us, hH, r⟩ := lst_at S hn q
      by_cases hi : -(2 ^ 63) ≤ i ∧ i < 2 ^ 63
      · rw [if_pos hi] at h
        cases q0 : seqIndex? i ys.length with
        | none => rw [q0] at h; exact h.elim
        | some k =>
          rw [q0] at h
          simp only at h
          cases q1 : ys[k]? with
          | none => rw [q1] at h; exact h.elim
          | some x =>
            rw [q1] at h
            obtain ⟨v, hv, rv⟩ := r.get q1
            exact .inr ⟨p, us, i, k, v, rfl, rfl, hH, hi.1, hi.2, by rw [r.length]; exact q0, hv, Post.setLst S hn (r.eraseIdx k) rv h⟩
      · rw [if_neg hi] at h; exact h.elim
    · exact h.elim
  · exact h.elim
/-! ### isinstance(x, T), T a built-in type -/
def isiB (t T : String) : Bool := t == T || (t == "bool" && T == "int")
def tyList : List String := ["int", "bool", "str", "tuple", "list", "dict"]
def tyAll : List String := ["NoneType", "int", "bool", "str", "tuple", "list", "dict"]
theorem kit_all : (tyAll.all fun t => tyList.all fun T => kitB t T == some (isiB t T)) = true := by decide +kernel
theorem kit_at {t T : String} (h1 : t ∈ tyAll) (h2 : T ∈ tyList) : kitB t T = some (isiB t T) := by
  have := List.all_eq_true.mp (List.all_eq_true.mp kit_all t h1) T h2
  exact eq_of_beq this
theorem tyName_of {ρ : Rho} {st : Store} {H : Hp} {v : V} {d : PV} {t : String} (hK : g.K = X.K) (S : Sim g ρ st H) (hv : RepV g ρ H v d) (h : tyName st d = some t) : TyX X.K H v (.type t) ∧ t ∈ tyAll := by
  cases hv with
  | non => cases h; exact ⟨.base .non, by decide⟩
  | bl b => cases h; exact ⟨.base (.bl b), by decide⟩
  | int i => cases h; exact ⟨.base (.int i), by decide⟩
  | str s => cases h; exact ⟨.base (.str s), by decide⟩
  | tup hp _ => cases h; exact ⟨.base (.tup hp), by decide⟩
  | ctup hp _ =>
    cases h
    obtain ⟨o, its, n, e, c, _⟩ := hp
    exact ⟨.kTuple (hK ▸ e) c, by decide⟩
  | ilst hp _ =>
    cases h
    rcases hp with ⟨o, e⟩ | ⟨o, its, n, e, c, _⟩
    · exact ⟨.base (.frz e), by decide⟩
    · exact ⟨.kList (hK ▸ e) c, by decide⟩
  | @obj p n hn =>
    simp only [tyName] at h
    split at h
    · rename_i xs q
      cases h
      obtain ⟨vs, hH, _⟩ := lst_at S hn q
      exact ⟨.base (.lst hH), by decide⟩
    · rename_i kvs q
      cases h
      obtain ⟨u, eu, r⟩ := S.at_ n p _ hn q
      obtain ⟨ws, rfl, _⟩ := HR.dK_inv r
      exact ⟨.base (.dK eu), by decide⟩
    · rename_i kvs q
      cases h
      obtain ⟨u, eu, r⟩ := S.at_ n p _ hn q
      obtain ⟨ws, rfl, _⟩ := HR.dT_inv r
      exact ⟨.base (.dT eu), by decide⟩
    · cases h
  | fn x => cases h
  | kd x => cases h
def cIsi (f : Dn) (T : String) : Dn := fun env => do
  let d ← f env
  fun st => match tyName st d with
    | some t => .ok (.bl (isiB t T)) st
    | none => .no
theorem s_isi {p p2 : Pos} {T : String} {x : Str} (hK : g.K = X.K) (hg : Gl X "isinstance") (hm : X.mg "isinstance" = none) (ha : PE X a (tI g W f)) (hT : PE X (.Name x p2) (tC (.ty T))) (ht : T ∈ tyList) (hs : starred a = false) :
    PE X (.Call (.Name "isinstance" p) [a, .Name x p2] [] pos) (tI g W (cIsi f T)) :=
  (pe_callB call_isi hg hm boot_isinstance (pa_cons ha (pa_cons hT pa_nil (star_plain rfl _ _)) (star_plain hs _ _)) (by decide) (by decide) (star_plain hs _ _) rfl).pimp fun σ H Q ⟨ρ, env, st, E, S, h⟩ => ⟨ρ, env, st, E, S, h.bind.mono fun d st1 ρ1 H1 x1 S1 h1 v hv => by
    split at h1
    · rename_i t q
      obtain ⟨k1, k2⟩ := tyName_of hK S1 hv q
      exact ⟨v, .ty T, _, .type T, isiB t T, rfl, .ty T, k1, kit_ty (kit_at k2 ht), (Post.pure h1 S1) _ (.bl _)⟩
    · exact h1.elim⟩

/-! ### written dicts with text keys -/
/-- the dict at y is kvs -/
structure KdS (g : Gd) (X : Cx) (y : Str) (kvs : List (Str × PV)) : Prop where
  ex : ∃ es n, KDict X.K X.w (g.kda y) es n
  at_ : ∀ z, match kvs.lookup z with
    | some d => ∃ u v, PySem.W.nsIn X.K (g.kda y) z = some (some u) ∧ RelV v u ∧ ∀ ρ H, RepV g ρ H v d
    | none => PySem.W.nsIn X.K (g.kda y) z = some none
def cKdIn (neg : Bool) (kvs : List (Str × PV)) (f : Dn) : Dn := fun env => do
  let d ← f env
  match d with
  | .str s => pure (.bl (neg != (kvs.lookup s).isSome))
  | _ => M.fail
def cKdGet (kvs : List (Str × PV)) (f : Dn) : Dn := fun env => do
  let d ← f env
  match d with
  | .str s => match kvs.lookup s with
    | some e => pure e
    | none => M.fail
  | _ => M.fail
theorem KdS.is {y : Str} {kvs : List (Str × PV)} (D : KdS g X y kvs) (z : Str) : ∃ r, PySem.W.nsIn X.K (g.kda y) z = some r ∧ r.isSome = (kvs.lookup z).isSome := by
  have := D.at_ z
  split at this
  · rename_i d e
    obtain ⟨u, v, h, _⟩ := this
    exact ⟨_, h, by rw [e]; rfl⟩
  · rename_i e
    exact ⟨_, this, by rw [e]; rfl⟩
theorem kdIn_of {y : Str} {kvs : List (Str × PV)} {neg : Bool} {r : R2} (D : KdS g X y kvs) (hr : ∀ {z : Str} {k : Option Value} {H : Hp} {Q : VK}, PySem.W.nsIn X.K (g.kda y) z = some k → Q (.bl (neg != k.isSome)) H → r (.str z) (.ref (g.kda y)) H Q) {σ : L2.St} {H : Hp} {Q : VK}
    (h : tI g W (cKdIn neg kvs f) σ H Q) : tOp r (tI g W f) (tC (.ref (g.kda y))) σ H Q := by
  obtain ⟨ρ, env, st, E, S, h⟩ := h
  refine ⟨ρ, env, st, E, S, h.bind.mono fun d st1 ρ1 H1 x1 S1 h1 v hv => ?_⟩
  cases hv with
  | str z =>
    obtain ⟨k, hk, e⟩ := D.is z
    exact hr hk (by rw [e]; exact (Post.pure h1 S1) _ (.bl _))
  | _ => exact h1.elim
theorem s_kdIn {y : Str} {kvs : List (Str × PV)} (D : KdS g X y kvs) (ha : PE X a (tI g W f)) (hb : PE X b (tC (.ref (g.kda y)))) (hm : behindInMarks .In b = false) : PE X (.Compare a [.In] [b] pos) (tI g W (cKdIn false kvs f)) := by
  obtain ⟨es, n, hD⟩ := D.ex
  exact (pe_cmpR (op_in_kd hD) ha hb hm).pimp fun _ _ _ h => kdIn_of D (fun hk q => ⟨_, _, rfl, rfl, hk, by simpa using q⟩) h
theorem s_kdNotIn {y : Str} {kvs : List (Str × PV)} (D : KdS g X y kvs) (ha : PE X a (tI g W f)) (hb : PE X b (tC (.ref (g.kda y)))) (hm : behindInMarks .NotIn b = false) : PE X (.Compare a [.NotIn] [b] pos) (tI g W (cKdIn true kvs f)) := by
  obtain ⟨es, n, hD⟩ := D.ex
  exact (pe_cmpR (op_notIn_kd hD) ha hb hm).pimp fun _ _ _ h => kdIn_of D (fun hk q => ⟨_, _, rfl, rfl, hk, by simpa using q⟩) h
theorem s_kdInT {y : Str} {kvs : List (Str × PV)} (D : KdS g X y kvs) (ha : PE X a (tI g W f)) (hb : PE X b (tC (.ref (g.kda y)))) (hm : behindInMarks .In b = false) : PT X (.Compare a [.In] [b] pos) (tT g W (cTest (cKdIn false kvs f))) := by
  obtain ⟨es, n, hD⟩ := D.ex
  exact (pt_cmpR (op_in_kd hD) ha hb hm).pimp fun _ _ _ h => tTest_of (fun _ _ _ h => kdIn_of D (fun hk q => ⟨_, _, rfl, rfl, hk, by simpa using q⟩) h) h
theorem s_kdNotInT {y : Str} {kvs : List (Str × PV)} (D : KdS g X y kvs) (ha : PE X a (tI g W f)) (hb : PE X b (tC (.ref (g.kda y)))) (hm : behindInMarks .NotIn b = false) : PT X (.Compare a [.NotIn] [b] pos) (tT g W (cTest (cKdIn true kvs f))) := by
  obtain ⟨es, n, hD⟩ := D.ex
  exact (pt_cmpR (op_notIn_kd hD) ha hb hm).pimp fun _ _ _ h => tTest_of (fun _ _ _ h => kdIn_of D (fun hk q => ⟨_, _, rfl, rfl, hk, by simpa using q⟩) h) h
end
end PyI

/-! PyI11: an entry of a written dict; any and all of a text's signs; zip of lists and tuples. -/
namespace PyI
open L2 PySem PySem.Spec PyProof.Rows
section
variable {X : Cx} {g : Gd} {W : XW} {a b e o : Expr} {es : List Expr} {f fa fb fo : Dn} {fl fm fs : Ln} {pos apos : Pos}
theorem s_kdGet {y : Str} {kvs : List (Str × PV)} (D : KdS g X y kvs) (ha : PE X a (tC (.ref (g.kda y)))) (hb : PE X b (tI g W f)) (hs : plainIxB b = true) : PE X (.Subscript a b pos) (tI g W (cKdGet kvs f)) := by
  obtain ⟨es, n, hD⟩ := D.ex
  refine (pe_ix ix_kdict ha hb (plainIx_of hs)).pimp fun σ H Q ⟨ρ, env, st, E, S, h⟩ => ⟨ρ, env, st, E, S, h.bind.mono fun d st1 ρ1 H1 x1 S1 h1 v hv => ?_⟩
  cases hv with
  | str z =>
    have hz := D.at_ z
    simp only at h1
    cases q : kvs.lookup z with
    | none => rw [q] at h1; exact h1.elim
    | some d =>
      rw [q] at h1 hz
      obtain ⟨u, v, k1, k2, k3⟩ := hz
      exact ⟨_, z, v, rfl, rfl, ⟨es, n, u, hD.at_, hD.lit, k1, k2⟩, (Post.pure h1 S1) _ (k3 _ _)⟩
  | _ => exact h1.elim

/-! ### any, all of the signs of a text -/
theorem elt_notIn {prog : Program} {w : World} {scope : Scope} {x k : Str} {j : Nat} {p1 p2 p3 : Pos} (hk : scope.kind = .function) (hl : scope.names.lookup x = some .local) (hd : (x == ("__debug__" : Str)) = false) :
    GxR.EltP prog w scope x (.Compare (.Name x p1) [.NotIn] [.Constant (.str k) j p2] p3) (fun c => !decide (c ∈ k.cps.toList)) := fun cenv A' E' c t s₂ m₂ hs hn hm => by
  refine wpAny_Compare1 (wpAny_Name (wpAny_loadName_local (by rw [hs]; exact hk) (show cenv.scope.names.lookup x = some .local by rw [hs]; exact hl) hn hm ?_) hd)
  exact Calls.Constant_str (PyProof.Rows.notIn_str ⟨congrArg Value.bool (congrArg Bool.not (PySem.StrLaws.found_one k c)), GxR.keeps_tok _ _⟩)
theorem elt_in {prog : Program} {w : World} {scope : Scope} {x k : Str} {j : Nat} {p1 p2 p3 : Pos} (hk : scope.kind = .function) (hl : scope.names.lookup x = some .local) (hd : (x == ("__debug__" : Str)) = false) :
    GxR.EltP prog w scope x (.Compare (.Name x p1) [.In] [.Constant (.str k) j p2] p3) (fun c => decide (c ∈ k.cps.toList)) := fun cenv A' E' c t s₂ m₂ hs hn hm => by
  refine wpAny_Compare1 (wpAny_Name (wpAny_loadName_local (by rw [hs]; exact hk) (show cenv.scope.names.lookup x = some .local by rw [hs]; exact hl) hn hm ?_) hd)
  exact Calls.Constant_str (PyProof.Rows.in_str ⟨congrArg Value.bool (PySem.StrLaws.found_one k c), GxR.keeps_tok _ _⟩)
def cSigns (all : Bool) (pb : Nat → Bool) (f : Dn) : Dn := fun env => do
  let d ← f env
  match d with
  | .str s => pure (.bl (if all then s.cps.toList.all pb else s.cps.toList.any pb))
  | _ => M.fail
theorem tabbed_ext {ρ : Rho} {st : Store} {H H2 : Hp} {P : Addr} (S : Sim g ρ st H) (hP : P ∈ g.tabs) (t : GxR.Tabbed P H H2) : Ext ρ H ρ H2 ∧ Sim g ρ st H2 := by
  obtain ⟨ps, e, tr⟩ := S.tabs P hP
  have ne : ∀ a u, H a = some u → (∀ q, u ≠ .tbl q) → a ≠ P := fun a u h n z => by
    rw [z, e] at h
    exact n ps (Option.some.inj h).symm
  have hE : Ext ρ H ρ H2 := by
    refine ⟨List.prefix_refl _, fun b hb => .inl hb, fun b u hb => ?_, fun b u hb _ hu => ?_⟩
    · by_cases hbP : b = P
      · obtain ⟨qs, eq, _⟩ := t.1
        exact ⟨_, by rw [hbP]; exact eq⟩
      · exact ⟨u, by rw [t.2 b hbP]; exact hb⟩
    · rw [t.2 b (ne b u hb hu)]; exact hb
  refine ⟨hE, S.len, S.nd, fun n b ob h1 h2 => ?_, fun P' hP' => ?_⟩
  · obtain ⟨u, eu, r⟩ := S.at_ n b ob h1 h2
    refine ⟨u, ?_, r.ext S hE⟩
    rw [t.2 b (ne b u eu fun q z => by subst z; exact HR.not_tbl r)]
    exact eu
  · by_cases z : P' = P
    · rw [z]; exact t.1
    · obtain ⟨qs, eq, tq⟩ := S.tabs P' hP'
      exact ⟨qs, by rw [t.2 P' z]; exact eq, tq⟩
theorem s_anyS {c P : Addr} {elt : Expr} {x : Str} {px p gpos : Pos} {scope : Scope} {pb : Nat → Bool} {k : Nat}
    (hr : Room k X.A) (hg : Gl X "any") (hm : X.mg "any" = none) (hP : P ∈ g.tabs) (TB : GxR.TabB X.base X.mg c P) (hcode : X.env.code = .ref c) (S : GxR.GenS X.env scope x) (hi : PE X a (tI g W f)) (hel : GxR.EltP X.prog X.w scope x elt pb) (hs : ∀ v, genFold a X.env v = pure v) :
    PE X (.Call (.Name "any" p) [.GeneratorExp elt [⟨.Name x px, a, [], 0⟩] scope gpos] [] pos) (tI g W (cSigns false pb f)) :=
  (GxR.pe_anyS hr hg hm TB hcode S hi hel hs (star_plain rfl _ _)).pimp fun σ H Q ⟨ρ, env, st, E, S, h⟩ => ⟨ρ, env, st, E, S, h.bind.mono fun d st1 ρ1 H1 x1 S1 h1 v hv => by
    cases hv with
    | str z => exact ⟨z, rfl, S1.tabs P hP, fun H2 t => (h1 ρ1 H2 (tabbed_ext S1 hP t).1 (tabbed_ext S1 hP t).2) _ (.bl _)⟩
    | _ => exact h1.elim⟩
theorem s_allS {c P : Addr} {elt : Expr} {x : Str} {px p gpos : Pos} {scope : Scope} {pb : Nat → Bool} {k : Nat}
    (hr : Room k X.A) (hg : Gl X "all") (hm : X.mg "all" = none) (hP : P ∈ g.tabs) (TB : GxR.TabB X.base X.mg c P) (hcode : X.env.code = .ref c) (S : GxR.GenS X.env scope x) (hi : PE X a (tI g W f)) (hel : GxR.EltP X.prog X.w scope x elt pb) (hs : ∀ v, genFold a X.env v = pure v) :
    PE X (.Call (.Name "all" p) [.GeneratorExp elt [⟨.Name x px, a, [], 0⟩] scope gpos] [] pos) (tI g W (cSigns true pb f)) :=
  (GxR.pe_allS hr hg hm (by decide +kernel) TB hcode S hi hel hs (star_plain rfl _ _)).pimp fun σ H Q ⟨ρ, env, st, E, S, h⟩ => ⟨ρ, env, st, E, S, h.bind.mono fun d st1 ρ1 H1 x1 S1 h1 v hv => by
    cases hv with
    | str z => exact ⟨z, rfl, S1.tabs P hP, fun H2 t => (h1 ρ1 H2 (tabbed_ext S1 hP t).1 (tabbed_ext S1 hP t).2) _ (.bl _)⟩
    | _ => exact h1.elim⟩
end
end PyI

/-! PyI12: zip of lists and tuples, mixed. -/
namespace PyI
open L2 PySem PySem.Spec PyProof.Rows
/-- k: a list; else a tuple -/
def SqOf (k : Bool) (K : PySem.W.Frag) (H : Hp) (a : Addr) (xs : List V) : Prop := match k with
  | true => SqL K H a xs
  | false => SqT K H a xs
def IsSq (k : Bool) (h : Heap) (a : Addr) (its : Array Value) : Prop := match k with
  | true => h.IsList a its
  | false => h.IsTuple a its
def ItCls (k : Bool) : String := match k with
  | true => "list_iterator"
  | false => "tuple_iterator"
def IsIt (k : Bool) (h : Heap) (it a : Addr) (i : Nat) : Prop := ∃ o, h.get? it = some o ∧ o.cls = .type (ItCls k) ∧ o.data = .fields #[.ref a, .int i 0]
theorem IsIt.at {k : Bool} {h h' : Heap} {it a : Addr} {i : Nat} (x : IsIt k h it a i) (q : ∀ o, h.get? it = some o → h'.get? it = some o) : IsIt k h' it a i := by
  obtain ⟨o, e, r⟩ := x
  exact ⟨o, q o e, r⟩
def iterObj (k : Bool) (a : Addr) : Obj := { cls := .type (ItCls k), data := .fields #[.ref a, .int 0 0] }
section
variable {prog : Program} {w : World} {A : Around} {E : Value → Shared → Prop} {s : Shared}
theorem IsSq.pushed {k : Bool} {h : Heap} {a : Addr} {its : Array Value} (x : IsSq k h a its) (o : Obj) : IsSq k (h.push o) a its := by
  cases k with
  | true => exact Heap.IsList.push x o
  | false => exact Heap.IsTuple.push x o
theorem iter_sq {k : Bool} {a : Addr} {its : Array Value} {Q : Value → Shared → Prop} (x : IsSq k s.heap a its) (h : Q (.ref s.heap.objs.size) { s with heap := s.heap.push (iterObj k a) }) : wpAny (model prog w) A (pyIter (.ref a)) Q E s := by
  cases k with
  | true => exact wpAny_pyIter_list x h
  | false => exact wpAny_pyIter_tuple x h
def zh1 (k1 : Bool) (h : Heap) (l1 : Addr) : Heap := h.push (iterObj k1 l1)
def zh2 (k1 k2 : Bool) (h : Heap) (l1 l2 : Addr) : Heap := (zh1 k1 h l1).push (iterObj k2 l2)
def zh3 (k1 k2 : Bool) (h : Heap) (l1 l2 : Addr) : Heap := (zh2 k1 k2 h l1 l2).push { cls := .type "tuple", data := .seq #[.ref h.objs.size, .ref (zh1 k1 h l1).objs.size] }
def zh4 (k1 k2 : Bool) (h : Heap) (l1 l2 : Addr) : Heap := (zh3 k1 k2 h l1 l2).push { cls := .type "tuple", data := .seq #[.none, .none] }
def zh5 (k1 k2 : Bool) (h : Heap) (l1 l2 : Addr) : Heap := (zh4 k1 k2 h l1 l2).push { cls := .type "zip", data := .fields #[.none, .bool false, .bool false, .ref (zh2 k1 k2 h l1 l2).objs.size, .ref (zh3 k1 k2 h l1 l2).objs.size] }
theorem meets_zipK (k1 k2 : Bool) (l1 l2 : Addr) (xs ys : Array Value) :
    Meets (Builtin.«zip.__new__» ⟨[.type "zip", .ref l1, .ref l2], []⟩) (fun _ R s => IsSq k1 s.heap l1 xs ∧ IsSq k2 s.heap l2 ys ∧ R (.ok (.ret (.ref (zh4 k1 k2 s.heap l1 l2).objs.size))) { s with heap := zh5 k1 k2 s.heap l1 l2 }) :=
  .of_wp fun prog w A R s h => by
    obtain ⟨hp, g, d, tk, os⟩ := s
    obtain ⟨q1, q2, h⟩ := h
    have hsub := sub_zip
    have a1 : IsSq k1 (Shared.heap ⟨hp, g, d, tk, os⟩) l1 xs := q1
    have a2 : IsSq k2 (Shared.heap ⟨hp.push (iterObj k1 l1), g, d, tk, os⟩) l2 ys := q2.pushed _
    wp_walk using iter_sq a1, iter_sq a2
    exact ⟨_, rfl, h⟩
theorem call_zipK {k1 k2 : Bool} {l1 l2 : Addr} {xs ys : Array Value} {Q : Value → Shared → Prop} (q1 : IsSq k1 s.heap l1 xs) (q2 : IsSq k2 s.heap l2 ys)
    (h : ∀ h', IsZip h' (s.heap.objs.size + 4) (s.heap.objs.size + 2) (s.heap.objs.size + 3) .none → IsTupOf2 h' (s.heap.objs.size + 2) (.ref s.heap.objs.size) (.ref (s.heap.objs.size + 1)) → IsTupOf2 h' (s.heap.objs.size + 3) .none .none →
      IsIt k1 h' s.heap.objs.size l1 0 → IsIt k2 h' (s.heap.objs.size + 1) l2 0 → (∀ c o, s.heap.get? c = some o → h'.get? c = some o) → Q (.ref (s.heap.objs.size + 4)) { s with heap := h' }) :
    wpAny (model prog w) A (call (.type "zip") [.ref l1, .ref l2]) Q E s := by
  refine callType_new F.called_zip (by decide) (F.typeCall_zip_2 _ _) (F.newCall_zip_2 _ _) (fun obj => F.args_object_init_3 obj _ _) F.entry_zip_new (meets_zipK k1 k2 l1 l2 xs ys) ⟨q1, q2, ?_⟩
  generalize hn : s.heap.objs.size = n at *
  have z1 : (zh1 k1 s.heap l1).objs.size = n + 1 := by rw [← hn]; exact Heap.size_push ..
  have z2 : (zh2 k1 k2 s.heap l1 l2).objs.size = n + 2 := (Heap.size_push ..).trans (by rw [z1])
  have z3 : (zh3 k1 k2 s.heap l1 l2).objs.size = n + 3 := (Heap.size_push ..).trans (by rw [z2])
  have z4 : (zh4 k1 k2 s.heap l1 l2).objs.size = n + 4 := (Heap.size_push ..).trans (by rw [z3])
  have up5 : ∀ {c : Addr} {o : Obj}, (zh4 k1 k2 s.heap l1 l2).get? c = some o → (zh5 k1 k2 s.heap l1 l2).get? c = some o := fun e => Heap.get?_push_of_some _ e
  have up4 : ∀ {c : Addr} {o : Obj}, (zh3 k1 k2 s.heap l1 l2).get? c = some o → (zh4 k1 k2 s.heap l1 l2).get? c = some o := fun e => Heap.get?_push_of_some _ e
  have up3 : ∀ {c : Addr} {o : Obj}, (zh2 k1 k2 s.heap l1 l2).get? c = some o → (zh3 k1 k2 s.heap l1 l2).get? c = some o := fun e => Heap.get?_push_of_some _ e
  have up2 : ∀ {c : Addr} {o : Obj}, (zh1 k1 s.heap l1).get? c = some o → (zh2 k1 k2 s.heap l1 l2).get? c = some o := fun e => Heap.get?_push_of_some _ e
  have g5 : (zh5 k1 k2 s.heap l1 l2).get? (zh4 k1 k2 s.heap l1 l2).objs.size = some { cls := .type "zip", data := .fields #[.none, .bool false, .bool false, .ref (zh2 k1 k2 s.heap l1 l2).objs.size, .ref (zh3 k1 k2 s.heap l1 l2).objs.size] } := Heap.get?_push_size _ rfl
  have g4 : (zh5 k1 k2 s.heap l1 l2).get? (zh3 k1 k2 s.heap l1 l2).objs.size = some { cls := .type "tuple", data := .seq #[.none, .none] } := up5 (Heap.get?_push_size _ rfl)
  have g3 : (zh5 k1 k2 s.heap l1 l2).get? (zh2 k1 k2 s.heap l1 l2).objs.size = some { cls := .type "tuple", data := .seq #[.ref s.heap.objs.size, .ref (zh1 k1 s.heap l1).objs.size] } := up5 (up4 (Heap.get?_push_size _ rfl))
  have g2 : (zh5 k1 k2 s.heap l1 l2).get? (zh1 k1 s.heap l1).objs.size = some (iterObj k2 l2) := up5 (up4 (up3 (Heap.get?_push_size _ (by cases k2 <;> rfl))))
  have g1 : (zh5 k1 k2 s.heap l1 l2).get? s.heap.objs.size = some (iterObj k1 l1) := up5 (up4 (up3 (up2 (Heap.get?_push_size _ (by cases k1 <;> rfl)))))
  rw [z2, z3, z4] at g5
  rw [z1, z2, hn] at g3
  rw [z3] at g4
  rw [z1] at g2
  rw [hn] at g1
  show _ ∧ _
  rw [z4]
  exact ⟨⟨_, g5, rfl⟩, h _ g5 g3 g4 ⟨_, g1, rfl, rfl⟩ ⟨_, g2, rfl, rfl⟩ fun c o e => up5 (up4 (up3 (up2 (Heap.get?_push_of_some _ e))))⟩
theorem drawsK {k : Bool} (hh : A.handled = none) (it a : Addr) (hne : a ≠ it) (its : Array Value) : Draws prog w A it [it, a] its.size (fun i v => its[i]? = some v) (fun i h => IsIt k h it a i ∧ IsSq k h a its) := by
  cases k with
  | true => exact Draws.list hh it a hne its
  | false => exact Draws.tuple hh it a hne its
end
section
variable {X : Cx} {pins : List (Addr × Obj)} {σ : L2.St} {H : Hp} {s : Shared}
theorem sq_at {k : Bool} {a : Addr} {xs : List V} (I : Inv X pins σ H s) (q : SqOf k X.K H a xs) : ∃ its : List Value, Vals xs its ∧ IsSq k s.heap a its.toArray ∧ a < s.heap.objs.size := by
  cases k with
  | true =>
    obtain ⟨its, rv, p, _⟩ := I.list q
    exact ⟨its, rv, p.isList, p.lt⟩
  | false =>
    obtain ⟨its, rv, p, _⟩ := I.tuple q
    exact ⟨its, rv, p, p.lt⟩
theorem sq_inj {k : Bool} {a : Addr} {xs ys : List V} (I : Inv X pins σ H s) (q : SqOf k X.K H a xs) (r : SqOf k X.K H a ys) : xs = ys := by
  cases k with
  | true => exact I.list_inj q r
  | false => exact I.tuple_inj q r
end
/-- two sequences as they stand at each turn, the items in new pairs -/
def Itk (k1 k2 : Bool) (K : PySem.W.Frag) (a b : Addr) : It :=
  ⟨fun i H => ∃ (xs ys : List V) (x y : V), SqOf k1 K H a xs ∧ SqOf k2 K H b ys ∧ xs[i]? = some x ∧ ys[i]? = some y,
    fun i H v H' => ∃ T x y, v = .ref T ∧ H T = none ∧ H' = upd H T (.tup [x, y]) ∧ (∀ xs, SqOf k1 K H a xs → xs[i]? = some x) ∧ ∀ ys, SqOf k2 K H b ys → ys[i]? = some y,
    fun i H => ∃ xs ys : List V, SqOf k1 K H a xs ∧ SqOf k2 K H b ys ∧ i ≤ xs.length ∧ i ≤ ys.length ∧ (i = xs.length ∨ i = ys.length)⟩
theorem ne_nat {x y : Nat} (h : x < y ∨ y < x) : ¬ @Eq Addr x y := fun e => by
  have e' : @Eq Nat x y := e
  omega
theorem sep_of {n a b : Nat} (ha : a < n) (hb : b < n) : ZipSep2 (n + 4) (n + 2) (n + 3) n (n + 1) [n, a] [n + 1, b] := by
  constructor <;> simp <;> first | done | (apply ne_nat; omega)
def fp5 (n : Nat) : List Addr := [n + 4, n + 2, n + 3, n, n + 1]
theorem of_fp5 {n c : Addr} (h : c ∈ fp5 n) : c = n + 4 ∨ c = n + 2 ∨ c = n + 3 ∨ c = n ∨ c = n + 1 := by simpa [fp5] using h
theorem lt_fp {n c m : Nat} (h : c = n + 4 ∨ c = n + 2 ∨ c = n + 3 ∨ c = n ∨ c = n + 1) (hz : n + 4 < m) : c < m := by omega
theorem le_fp {n c : Nat} (h : c = n + 4 ∨ c = n + 2 ∨ c = n + 3 ∨ c = n ∨ c = n + 1) : n ≤ c := by omega
theorem turn_zipK {P : Program} {w : World} {K : PySem.W.Frag} {elts : List Expr} {kk : Nat} {tpos : Pos} {k1 k2 : Bool} {a b n : Addr} (ha : a < n) (hb : b < n) :
    Turn P w K (.Tuple elts kk tpos) (Itk k1 k2 K a b) (fp5 n) (n + 4) (fun i h => IsZip h (n + 4) (n + 2) (n + 3) .none ∧ IsTupOf2 h (n + 2) (.ref n) (.ref (n + 1)) ∧ (∃ x y, IsTupOf2 h (n + 3) x y) ∧ IsIt k1 h n a i ∧ IsIt k2 h (n + 1) b i) where
  mem := by simp [fp5]
  obj := fun i h st c hc => by
    obtain ⟨hz, hTI, ⟨x, y, hTO⟩, ⟨o1, e1, _, d1⟩, ⟨o2, e2, _, d2⟩⟩ := st
    rcases of_fp5 hc with q | q | q | q | q <;> subst q
    · exact ⟨_, hz, fun v q => nomatch q⟩
    · exact ⟨_, hTI, fun v q => nomatch q⟩
    · exact ⟨_, hTO, fun v q => nomatch q⟩
    · exact ⟨o1, e1, fun v q => by rw [d1] at q; cases q⟩
    · exact ⟨o2, e2, fun v q => by rw [d2] at q; cases q⟩
  keep := fun i h h' st k => by
    obtain ⟨hz, hTI, ⟨x, y, hTO⟩, h1, h2⟩ := st
    have m : ∀ c, (c = n + 4 ∨ c = n + 2 ∨ c = n + 3 ∨ c = n ∨ c = n + 1) → c ∈ fp5 n := fun c h => by simpa [fp5] using h
    exact ⟨k _ (m _ (by simp)) _ hz, k _ (m _ (by simp)) _ hTI, ⟨x, y, k _ (m _ (by simp)) _ hTO⟩, h1.at fun o q => k _ (m _ (by simp)) o q, h2.at fun o q => k _ (m _ (by simp)) o q⟩
  item := by
    intro X hP hw hK hc i pins s σ H E I hf st hg
    subst hP hw hK
    obtain ⟨hz, hTI, ⟨x0, y0, hTO⟩, h1, h2⟩ := st
    obtain ⟨xs, ys, x, y, qx, qy, hx, hy⟩ := hg
    obtain ⟨its, rv, p1, _⟩ := sq_at I qx
    obtain ⟨jts, rw', p2, _⟩ := sq_at I qy
    obtain ⟨u, hu, ru⟩ := rv.get hx
    obtain ⟨u2, hu2, ru2⟩ := rw'.get hy
    have hzl : n + 4 < s.heap.objs.size := Heap.lt_size hz
    have li : i < its.length := (List.getElem?_eq_some_iff.mp hu).1
    have lj : i < jts.length := (List.getElem?_eq_some_iff.mp hu2).1
    have D1 : Draws X.prog X.w X.A.in1 n [n, a] _ _ _ := drawsK (prog := X.prog) (w := X.w) (A := X.A.in1) (k := k1) (I.ok.hd hc) n a (Nat.ne_of_lt ha) its.toArray
    have D2 : Draws X.prog X.w X.A.in1 (n + 1) [n + 1, b] _ _ _ := drawsK (prog := X.prog) (w := X.w) (A := X.A.in1) (k := k2) (I.ok.hd hc) (n + 1) b (Nat.ne_of_lt (Nat.lt_succ_of_lt hb)) jts.toArray
    refine wpAny_pyNext_zipD2_item (sep_of ha hb) D1 D2 hz hTI hTO ⟨h1, p1⟩ ⟨h2, p2⟩ (by simpa using li) (by simpa using lj) fun v1 v2 h' tk e1 e2 z' TO' i1' i2' hT hsz hk => ?_
    have ev1 : u = v1 := by simpa [hu] using e1
    have ev2 : u2 = v2 := by simpa [hu2] using e2
    subst ev1; subst ev2
    refine ⟨_, rfl, wpAny_letOwnedTupleGo_zip (s := { s with heap := h', toks := tk }) z' fun h'' z'' sb => ?_⟩
    have hT2 : h''.get? s.heap.objs.size = some { cls := .type "tuple", data := .seq #[u, u2] } := (sb.2 _ (Nat.ne_of_gt hzl)).trans hT
    have new : ObjOk X.prog X.w (upd H s.heap.objs.size (.tup [x, y])) h'' s.heap.objs.size (.tup [x, y]) := ⟨by show 2 ≤ sizeLine; decide, [u, u2], .cons ru (.cons ru2 .nil), ⟨_, hT2, rfl, _, rfl⟩⟩
    have nin : ∀ {c : Addr}, c ∉ fp5 n → c ≠ n + 4 ∧ c ≠ n + 3 ∧ c ≠ n ∧ c ≠ n + 1 := fun {c} hc => by
      have no : ¬ (c = n + 4 ∨ c = n + 2 ∨ c = n + 3 ∨ c = n ∨ c = n + 1) := fun z => hc (by simpa [fp5] using z)
      exact ⟨fun z => no (.inl z), fun z => no (.inr (.inr (.inl z))), fun z => no (.inr (.inr (.inr (.inl z)))), fun z => no (.inr (.inr (.inr (.inr z))))⟩
    have I1 : Inv X pins σ (upd H s.heap.objs.size (.tup [x, y])) { s with heap := h'', toks := tk } :=
      I.turnedNew (t' := tk) (ch := fp5 n) (fun c o hb q => (sb.2 c (nin hb).1).trans (hk c o (nin hb).1 (nin hb).2.1 (nin hb).2.2.1 (nin hb).2.2.2 q)) hf (Nat.le_refl _) new
    refine ⟨.ref s.heap.objs.size, _, I1, rfl, ⟨_, x, y, rfl, I.hok.fresh (Nat.le_refl _), rfl, fun l hl => by rw [sq_inj I hl qx]; exact hx, fun l hl => by rw [sq_inj I hl qy]; exact hy⟩, ⟨z'', ?_, ⟨u, u2, ?_⟩, ?_, ?_⟩, fun c hcm => ?_⟩
    · exact (sb.2 _ (ne_nat (by omega))).trans (hk _ _ (ne_nat (by omega)) (ne_nat (by omega)) (ne_nat (by omega)) (ne_nat (by omega)) hTI)
    · exact (sb.2 _ (ne_nat (by omega))).trans TO'
    · exact i1'.1.at fun o q => (sb.2 _ (ne_nat (by omega))).trans q
    · exact i2'.1.at fun o q => (sb.2 _ (ne_nat (by omega))).trans q
    · have hlt : c < s.heap.objs.size := lt_fp (of_fp5 hcm) hzl
      rw [upd_ne (Nat.ne_of_lt hlt)]
      exact (hf c hcm).1
  done := by
    intro X hP hw hK hc i pins s σ H E I hf st hg
    subst hP hw hK
    obtain ⟨hz, hTI, ⟨x0, y0, hTO⟩, h1, h2⟩ := st
    obtain ⟨xs, ys, qx, qy, l1, l2, hend⟩ := hg
    obtain ⟨its, rv, p1, _⟩ := sq_at I qx
    obtain ⟨jts, rw', p2, _⟩ := sq_at I qy
    have e1 := rv.length
    have e2 := rw'.length
    have nin : ∀ {c : Addr}, c ∉ fp5 n → c ≠ n + 4 ∧ c ≠ n + 3 ∧ c ≠ n ∧ c ≠ n + 1 := fun {c} hc => by
      have no : ¬ (c = n + 4 ∨ c = n + 2 ∨ c = n + 3 ∨ c = n ∨ c = n + 1) := fun z => hc (by simpa [fp5] using z)
      exact ⟨fun z => no (.inl z), fun z => no (.inr (.inr (.inl z))), fun z => no (.inr (.inr (.inr (.inl z)))), fun z => no (.inr (.inr (.inr (.inr z))))⟩
    have D1 : Draws X.prog X.w X.A.in1 n [n, a] _ _ _ := drawsK (prog := X.prog) (w := X.w) (A := X.A.in1) (k := k1) (I.ok.hd hc) n a (Nat.ne_of_lt ha) its.toArray
    have D2 : Draws X.prog X.w X.A.in1 (n + 1) [n + 1, b] _ _ _ := drawsK (prog := X.prog) (w := X.w) (A := X.A.in1) (k := k2) (I.ok.hd hc) (n + 1) b (Nat.ne_of_lt (Nat.lt_succ_of_lt hb)) jts.toArray
    exact wpAny_pyNext_zipD2_end (sep_of ha hb) D1 D2 hz hTI hTO ⟨h1, p1⟩ ⟨h2, p2⟩ (by rw [List.size_toArray, ← e1]; exact l1) (by rw [List.size_toArray, ← e2]; exact l2) (by rw [List.size_toArray, List.size_toArray, ← e1, ← e2]; exact hend)
      fun h' tk hk => ⟨rfl, I.turnedL (t' := tk) (ch := fp5 n) (fun c o hb q => hk c o (nin hb).1 (nin hb).2.1 (nin hb).2.2.1 (nin hb).2.2.2 q) hf⟩
  self := fun A i s Q E st h => wpAny_pyIter_zip st.1 h
def iZipK (K : PySem.W.Frag) (ta : TA) : TI := fun σ H R => ta σ H fun vs H1 => ∃ k1 k2 a b xs ys, vs = [.ref a, .ref b] ∧ SqOf k1 K H1 a xs ∧ SqOf k2 K H1 b ys ∧ R (Itk k1 k2 K a b) H1
theorem pi_zipK {X : Cx} {e e2 : Expr} {ta : TA} {p pos tpos : Pos} {elts : List Expr} {kk : Nat} (hg : Gl X "zip") (hm : X.mg "zip" = none) (ha : PA X [e, e2] ta) (hs : starred e = false) (hs2 : starred e2 = false) :
    PI X (.Tuple elts kk tpos) (.Call (.Name "zip" p) [e, e2] [] pos) (iZipK X.K ta) := by
  refine ⟨fun pins s σ H R I h => Call_ (ld_blt I hg hm PyProof.Rows.boot_zip (PyProof.Rows.callWith_type1 (thn (ha.run pos pins s σ H _ I h) fun us s1 ⟨vs, H1, I1, r1, q1⟩ => ?_) (star_plain hs _ _) (by rw [star_plain hs2] <;> rfl)))⟩
  obtain ⟨k1, k2, a, b, xs, ys, ex, qx, qy, q⟩ := q1
  subst ex
  cases r1 with
  | cons r rr =>
  cases rr with
  | cons r' rr =>
  cases rr
  cases r
  cases r'
  obtain ⟨its, rv, p1, la⟩ := sq_at I1 qx
  obtain ⟨jts, rw', p2, lb⟩ := sq_at I1 qy
  refine call_zipK p1 p2 fun h' hz hTI hTO h1 h2 hk => wpAny_pyIter_zip hz ?_
  refine ⟨_, fp5 s1.heap.objs.size, _, _, H1, rfl, I1.kept (t' := s1.toks) hk, turn_zipK la lb, ⟨hz, hTI, ⟨_, _, hTO⟩, h1, h2⟩, fun c hcm => ?_, q⟩
  have hle : s1.heap.objs.size ≤ c := le_fp (of_fp5 hcm)
  exact I1.fpOk hle (I1.hok.fresh hle)
end PyI

/-! PyI13: a walk over zip. -/
namespace PyI
open L2 PySem PySem.Spec PyProof.Rows
/-- the items of a list or tuple -/
def seqP (d : PV) : M (List PV × Guard) := fun st => match d with
  | .tup xs => .ok (xs, []) st
  | .ctup xs => .ok (xs, []) st
  | .ilst xs => .ok (xs, []) st
  | .obj n => match st[n]? with
    | some (.lst xs) => .ok (xs, [(n, xs)]) st
    | _ => .no
  | _ => .no
def zipP (xs ys : List PV) : List PV := (xs.zip ys).map fun p => .tup [p.1, p.2]
def wZip (fa fb : Dn) : Wn := fun env => do
  let a ← fa env
  let b ← fb env
  let p ← seqP a
  let q ← seqP b
  pure (zipP p.1 q.1, p.2 ++ q.2)
section
variable {X : Cx} {g : Gd} {W : XW} {e e2 : Expr} {f f2 : Dn}
/-- while the guard holds, the sequence at a stands for xs -/
def Stands (g : Gd) (K : PySem.W.Frag) (ρ : Rho) (H : Hp) (k : Bool) (a : Addr) (xs : List PV) (gd : Guard) : Prop :=
  ∀ ρ2 st2 H2, Ext ρ H ρ2 H2 → Sim g ρ2 st2 H2 → gdOk gd st2 = true → ∃ vs, SqOf k K H2 a vs ∧ RepL g ρ2 H2 vs xs
theorem seq_of {ρ : Rho} {st : Store} {H : Hp} {v : V} {d : PV} {Q : List PV × Guard → Store → Rho → Hp → Prop} (hK : g.K = X.K) (S : Sim g ρ st H) (hv : RepV g ρ H v d) (h : Post g W ρ H (seqP d st) Q) :
    ∃ xs gd k a, seqP d st = .ok (xs, gd) st ∧ v = .ref a ∧ gdOk gd st = true ∧ Stands g X.K ρ H k a xs gd := by
  cases hv with
  | @tup p vs xs hp hr => exact ⟨xs, [], false, p, rfl, rfl, rfl, fun ρ2 st2 H2 E S2 _ => ⟨vs, .of (tup_ext S E hp), hr.ext S E⟩⟩
  | @ctup p vs xs hp hr => exact ⟨xs, [], false, p, rfl, rfl, rfl, fun ρ2 st2 H2 E S2 _ => ⟨vs, hK ▸ hp.sq, hr.ext S E⟩⟩
  | @ilst p vs xs hp hr => exact ⟨xs, [], true, p, rfl, rfl, rfl, fun ρ2 st2 H2 E S2 _ => ⟨vs, hK ▸ (sqI_ext S E hp).sq, hr.ext S E⟩⟩
  | @obj p n hn =>
    simp only [seqP] at h ⊢
    cases q : st[n]? with
    | none => rw [q] at h; exact h.elim
    | some ob =>
      rw [q] at h
      cases ob with
      | lst xs =>
        refine ⟨xs, [(n, xs)], true, p, rfl, rfl, gd_one q, fun ρ2 st2 H2 E S2 hg => ?_⟩
        obtain ⟨vs, e, r⟩ := lst_at S2 (pre_get E.pre hn) (of_gd hg)
        exact ⟨vs, .of e, r⟩
      | _ => exact h.elim
  | _ => exact h.elim
theorem gd_append {a b : Guard} {st : Store} : gdOk (a ++ b) st = (gdOk a st && gdOk b st) := by
  unfold gdOk
  rw [List.all_append]
theorem Stands.ext {ρ ρ1 : Rho} {H H1 : Hp} {k : Bool} {a : Addr} {xs : List PV} {gd : Guard} (h : Stands g X.K ρ H k a xs gd) (E : Ext ρ H ρ1 H1) : Stands g X.K ρ1 H1 k a xs gd := fun ρ2 st2 H2 E2 => h ρ2 st2 H2 (E.trans E2)
theorem zip_item {xs ys : List PV} {i : Nat} {d e : PV} (h1 : xs[i]? = some d) (h2 : ys[i]? = some e) : (zipP xs ys)[i]? = some (.tup [d, e]) := by
  unfold zipP
  rw [List.getElem?_map, (List.getElem?_zip_eq_some (z := (d, e))).mpr ⟨h1, h2⟩]
  rfl
theorem zip_len {xs ys : List PV} : (zipP xs ys).length = min xs.length ys.length := by unfold zipP; simp
theorem zip_ok {ρ : Rho} {H : Hp} {k1 k2 : Bool} {a b : Addr} {xs ys : List PV} {g1 g2 : Guard} (s1 : Stands g X.K ρ H k1 a xs g1) (s2 : Stands g X.K ρ H k2 b ys g2) : WOk g ρ H (Itk k1 k2 X.K a b) (zipP xs ys) (g1 ++ g2) := by
  have at2 : ∀ ρ2 st2 H2, Ext ρ H ρ2 H2 → Sim g ρ2 st2 H2 → gdOk (g1 ++ g2) st2 = true → ∃ vs us, SqOf k1 X.K H2 a vs ∧ RepL g ρ2 H2 vs xs ∧ SqOf k2 X.K H2 b us ∧ RepL g ρ2 H2 us ys := fun ρ2 st2 H2 E S2 hg => by
    rw [gd_append, Bool.and_eq_true] at hg
    obtain ⟨vs, h1, h2⟩ := s1 ρ2 st2 H2 E S2 hg.1
    obtain ⟨us, h3, h4⟩ := s2 ρ2 st2 H2 E S2 hg.2
    exact ⟨vs, us, h1, h2, h3, h4⟩
  refine ⟨fun H2 => ∃ vs us : List V, vs.length = xs.length ∧ us.length = ys.length ∧ SqOf k1 X.K H2 a vs ∧ SqOf k2 X.K H2 b us, fun i H2 v H3 => (Itk k1 k2 X.K a b).yld i H2 v H3, ?_, fun ρ2 st2 H2 E S2 hg => ?_, fun i H2 v H3 ρ2 st2 hi E S2 hg y => ?_⟩
  · refine ⟨fun i H hi h => ?_, fun H h => ?_, fun i H x H' hi h y => y⟩
    · rw [zip_len] at hi
      obtain ⟨vs, us, l1, l2, h1, h2⟩ := h
      have i1 : i < vs.length := by omega
      have i2 : i < us.length := by omega
      exact ⟨vs, us, vs[i], us[i], h1, h2, List.getElem?_eq_getElem i1, List.getElem?_eq_getElem i2⟩
    · rw [zip_len]
      obtain ⟨vs, us, l1, l2, h1, h2⟩ := h
      exact ⟨vs, us, h1, h2, by omega, by omega, by omega⟩
  · obtain ⟨vs, us, h1, h2, h3, h4⟩ := at2 ρ2 st2 H2 E S2 hg
    exact ⟨vs, us, h2.length, h4.length, h1, h3⟩
  · obtain ⟨T, x, z, rfl, hT, e3, y1, y2⟩ := y
    obtain ⟨vs, us, h1, h2, h3, h4⟩ := at2 ρ2 st2 H2 E S2 hg
    obtain ⟨d, q1, r1⟩ := h2.item (y1 vs h1)
    obtain ⟨c, q2, r2⟩ := h4.item (y2 us h3)
    exact ⟨_, zip_item q1 q2, pair_turn S2 hT e3 r1 r2⟩
theorem s_wZip {p pos tpos : Pos} {elts : List Expr} {kk : Nat} (hK : g.K = X.K) (hg : Gl X "zip") (hm : X.mg "zip" = none) (he : PE X e (tI g W f)) (he2 : PE X e2 (tI g W f2)) (hs : starred e = false) (hs2 : starred e2 = false) :
    PI X (.Tuple elts kk tpos) (.Call (.Name "zip" p) [e, e2] [] pos) (tW g W (wZip f f2)) :=
  (pi_zipK hg hm (pa_cons he (pa_cons he2 pa_nil (star_plain hs2 _ _)) (star_plain hs _ _)) hs hs2).pimp fun σ H R ⟨ρ, env, st, E, S, h⟩ => ⟨ρ, env, st, E, S, h.bind.mono fun d st1 ρ1 H1 x1 S1 h1 v hv =>
    ⟨ρ1, env, st1, E.ext S x1, S1, h1.bind.mono fun c st2 ρ2 H2 x2 S2 h2 u hu => by
      obtain ⟨xs, g1, k1, a, e1, rfl, o1, s1⟩ := seq_of hK S2 (hv.ext S1 x2) h2.bind
      rw [bind_ok e1] at h2
      obtain ⟨ys, g2, k2, b, e2, rfl, o2, s2⟩ := seq_of hK S2 hu h2.bind
      rw [bind_ok e2] at h2
      obtain ⟨vs, q1, _⟩ := s1 ρ2 st2 H2 (Ext.refl _ _) S2 o1
      obtain ⟨us, q2, _⟩ := s2 ρ2 st2 H2 (Ext.refl _ _) S2 o2
      exact ⟨k1, k2, a, b, vs, us, rfl, q1, q2, (Post.pure h2 S2) (by rw [gd_append, o1, o2]; rfl) _ (zip_ok s1 s2)⟩⟩⟩
end
end PyI

/-! PyI14: statements. -/
namespace PyI
open L2 PySem PySem.Spec PyProof.Rows

/-- how a statement ends -/
inductive Fl where
  | nx (env : EnvP)
  | ret (d : PV)
  | brk (env : EnvP)
  | cont (env : EnvP)
abbrev Sm := EnvP → M Fl
section
variable (g : Gd) (W : XW)
def EndS (D : Ends) (fl : Fl) (ρ : Rho) (H : Hp) : Prop := match fl with
  | .nx env => ∀ σ, EnvR g ρ H σ env → D.nx σ H
  | .ret d => ∀ v, RepV g ρ H v d → D.rt v H
  | .brk env => ∀ σ, EnvR g ρ H σ env → D.bk σ H
  | .cont env => ∀ σ, EnvR g ρ H σ env → D.ct σ H
def tS (f : Sm) : TS := fun D σ H => ∃ ρ env st, EnvR g ρ H σ env ∧ Sim g ρ st H ∧ Post g W ρ H (f env st) fun fl _ ρ' H' => EndS g D fl ρ' H'
end
def sNext : Sm := fun env => pure (.nx env)
def sSeq (a b : Sm) : Sm := fun env => do
  let fl ← a env
  match fl with
  | .nx env' => b env'
  | fl => pure fl
def sIf (c : Tn) (a b : Sm) : Sm := fun env => do
  let k ← c env
  if k then a env else b env
def sRet (f : Dn) : Sm := fun env => do
  let d ← f env
  pure (.ret d)
def sRetN : Sm := fun _ => pure (.ret .non)
def sDrop (f : Dn) : Sm := fun env => do
  let _ ← f env
  pure (.nx env)
def sBrk : Sm := fun env => pure (.brk env)
def sCont : Sm := fun env => pure (.cont env)
def sFail : Sm := fun _ => M.fail
def sAsg (f : Dn) (t : Tg) : Sm := fun env => do
  let d ← f env
  let env' ← setT t d env
  pure (.nx env')
def forLoop (t : Tg) (body : Sm) (gd : Guard) : List PV → Sm
  | [], env => pure (.nx env)
  | x :: xs, env => do
    let env1 ← setT t x env
    let fl ← body env1
    match fl with
    | .nx env2 => do
      chk gd
      forLoop t body gd xs env2
    | .cont env2 => do
      chk gd
      forLoop t body gd xs env2
    | .brk env2 => pure (.nx env2)
    | .ret d => pure (.ret d)
def sFor (wi : Wn) (t : Tg) (body : Sm) : Sm := fun env => do
  let p ← wi env
  forLoop t body p.2 p.1 env
def whileLoop (c : Tn) (body : Sm) : Nat → Sm
  | 0, _ => M.fail
  | n + 1, env => do
    let k ← c env
    if k then do
      let fl ← body env
      match fl with
      | .nx env2 => whileLoop c body n env2
      | .cont env2 => whileLoop c body n env2
      | .brk env2 => pure (.nx env2)
      | .ret d => pure (.ret d)
    else pure (.nx env)
section
variable {X : Cx} {g : Gd} {W : XW} {a b c e tg iter : Expr} {es : List Expr} {f fa fb fc : Dn} {tt : Tn} {s1 s2 body : Sm} {pos : Pos} {stm : Stmt} {ss ss2 : List Stmt} {t : Tg} {wi : Wn}
theorem Post.ext {α : Type} {ρ ρ' : Rho} {H H' : Hp} {r : Res α} {Q : α → Store → Rho → Hp → Prop} (h : Post g W ρ H r Q) (E : Ext ρ H ρ' H') : Post g W ρ' H' r Q := by
  cases r with
  | ok a st => exact fun ρ2 H2 E2 S2 => h ρ2 H2 (E.trans E2) S2
  | ex e st => exact fun ρ2 H2 E2 S2 => h ρ2 H2 (E.trans E2) S2
  | no => exact h
theorem ss_pass : PS X (.Pass pos) (tS g W sNext) := ps_pass.pimp fun D σ H ⟨ρ, env, st, E, S, h⟩ => (Post.pure h S) σ E
theorem ss_break : PS X (.Break pos) (tS g W sBrk) := ps_break.pimp fun D σ H ⟨ρ, env, st, E, S, h⟩ => (Post.pure h S) σ E
theorem ss_cont : PS X (.Continue pos) (tS g W sCont) := ps_continue.pimp fun D σ H ⟨ρ, env, st, E, S, h⟩ => (Post.pure h S) σ E
theorem ss_fail : PS X stm (tS g W sFail) := ⟨fun _ _ _ _ _ _ ⟨_, _, _, _, _, h⟩ => h.elim⟩
theorem ss_doc {x : Str} {j : Nat} {pos' : Pos} : PS X (.Expr (.Constant (.str x) j pos) pos') (tS g W sNext) := ps_doc.pimp fun D σ H ⟨ρ, env, st, E, S, h⟩ => (Post.pure h S) σ E
theorem ss_nil : PSs X [] (tS g W sNext) := pss_nil.pimp fun D σ H ⟨ρ, env, st, E, S, h⟩ => (Post.pure h S) σ E
theorem ss_cons (h1 : PS X stm (tS g W s1)) (h2 : PSs X ss (tS g W s2)) : PSs X (stm :: ss) (tS g W (sSeq s1 s2)) :=
  (pss_cons h1 h2).pimp fun D σ H ⟨ρ, env, st, E, S, h⟩ => ⟨ρ, env, st, E, S, h.bind.mono fun fl st1 ρ1 H1 x1 S1 h1 => by
    cases fl with
    | nx env' => exact fun σ' E' => ⟨ρ1, env', st1, E', S1, h1⟩
    | ret d => exact Post.pure h1 S1
    | brk env' => exact Post.pure h1 S1
    | cont env' => exact Post.pure h1 S1⟩
theorem ss_ret (ha : PE X a (tI g W fa)) : PS X (.Return (some a) pos) (tS g W (sRet fa)) :=
  (ps_ret ha).pimp fun D σ H ⟨ρ, env, st, E, S, h⟩ => ⟨ρ, env, st, E, S, h.bind.mono fun d st1 ρ1 H1 x1 S1 h1 v hv => (Post.pure h1 S1) v hv⟩
theorem ss_retN : PS X (.Return none pos) (tS g W sRetN) := ps_retN.pimp fun D σ H ⟨ρ, env, st, E, S, h⟩ => (Post.pure h S) .non .non
theorem ss_expr (ha : PE X a (tI g W fa)) (hs : swapsWith a none pos.line X.env = pure false) : PS X (.Expr a pos) (tS g W (sDrop fa)) :=
  (ps_expr ha hs).pimp fun D σ H ⟨ρ, env, st, E, S, h⟩ => ⟨ρ, env, st, E, S, h.bind.mono fun d st1 ρ1 H1 x1 S1 h1 v hv => (Post.pure h1 S1) σ (E.ext S x1)⟩
theorem ss_if (hc : PT X c (tT g W tt)) (h1 : PSs X ss (tS g W s1)) (h2 : PSs X ss2 (tS g W s2)) : PS X (.If c ss ss2 pos) (tS g W (sIf tt s1 s2)) :=
  (ps_if hc h1 h2).pimp fun D σ H ⟨ρ, env, st, E, S, h⟩ => ⟨ρ, env, st, E, S, h.bind.mono fun k st1 ρ1 H1 x1 S1 h1 => by
    cases k with
    | true => exact iteT ⟨ρ1, env, st1, E.ext S x1, S1, h1⟩
    | false => exact iteF ⟨ρ1, env, st1, E.ext S x1, S1, h1⟩⟩
theorem asg_of {σ : L2.St} {H : Hp} {D : Ends} (h : tS g W (sAsg fa t) D σ H) : tAsg (tI g W fa) (tG g W t) D σ H := by
  obtain ⟨ρ, env, st, E, S, h⟩ := h
  refine ⟨ρ, env, st, E, S, h.bind.mono fun d st1 ρ1 H1 x1 S1 h1 v hv => ⟨ρ1, env, st1, d, E.ext S x1, S1, hv, ?_⟩⟩
  refine h1.bind.mono fun env' st2 ρ2 H2 x2 S2 h2 e1 e2 σ' E' O' => ?_
  subst e1; subst e2
  exact (Post.pure h2 S2) σ' E'
theorem ss_asg (ha : PE X a (tI g W fa)) (ht : PG X tg (tG g W t)) (hs : swapsWithSole [tg] a pos.line X.env = pure false) (hw : swappedStores [tg] a X.env = pure none) (h1 : starred tg = false) : PS X (.Assign [tg] a pos) (tS g W (sAsg fa t)) :=
  (ps_asg ha ht hs hw (assign_cons tg [] X.env h1)).pimp fun _ _ _ => asg_of
theorem ss_set {i : Nat} {x : Str} {pos' : Pos} (hN : X.N.Nodup) (hi : X.N[i]? = some x) (hx : Loc X.env.scope x) (ha : PE X a (tI g W fa)) (hs : swapsWith a (some (.Name x pos')) pos.line X.env = pure false) (hf : X.fn x = true ∨ X.env.scope.names.lookup x = some .local) :
    PS X (.Assign [.Name x pos'] a pos) (tS g W (sAsg fa (.name i))) :=
  (ps_set hN hi hx ha hs hf).pimp fun D σ H ⟨ρ, env, st, E, S, h⟩ => ⟨ρ, env, st, E, S, h.bind.mono fun d st1 ρ1 H1 x1 S1 h1 v hv => (Post.pure h1 S1) _ ((E.ext S x1).set i hv)⟩
/-- a, b = x, y stored from the right -/
def sPar (fs : Ln) (i j : Nat) : Sm := fun env => do
  let xs ← fs env
  match xs with
  | [x, y] => pure (.nx ((env.set i (some x)).set j (some y)))
  | _ => M.fail
theorem ss_par {i j : Nat} {x y : Str} {px py pt : Pos} {kt k2 : Nat} {pt2 : Pos} {fs : Ln} (hc : X.calm = true) (hN : X.N.Nodup) (hi : X.N[i]? = some x) (hj : X.N[j]? = some y) (hij : i ≠ j) (hx : X.env.scope.names.lookup x = some .local) (hy : X.env.scope.names.lookup y = some .local) (ha : PA X [a, b] (tA g W fs))
    (hw : swappedStores [.Tuple [.Name x px, .Name y py] kt pt] (.Tuple [a, b] k2 pt2) X.env = pure (some [x, y])) (hs : swapsWithSole [.Tuple [.Name x px, .Name y py] kt pt] (.Tuple [a, b] k2 pt2) pos.line X.env = pure false) :
    PS X (.Assign [.Tuple [.Name x px, .Name y py] kt pt] (.Tuple [a, b] k2 pt2) pos) (tS g W (sPar fs i j)) :=
  (ps_par hc hN hi hj hij hx hy ha hw hs).pimp fun D σ H ⟨ρ, env, st, E, S, h⟩ => ⟨ρ, env, st, E, S, h.bind.mono fun xs st1 ρ1 H1 x1 S1 h1 vs hvs => by
    split at h1
    · cases hvs with | cons q1 r => cases r with | cons q2 r => cases r; exact ⟨_, _, rfl, (Post.pure h1 S1) _ (((E.ext S x1).set i q1).set j q2)⟩
    · exact h1.elim⟩
/-- x += e and x -= e, ints -/
def augP (F : Int → Int → Int) : PV → PV → M PV
  | .int k, .int j => pure (.int (F k j))
  | _, _ => M.fail
def sAug (F : Int → Int → Int) (i : Nat) (f : Dn) : Sm := fun env => do
  let x ← cVar i env
  let d ← f env
  let z ← augP F x d
  pure (.nx (env.set i (some z)))
theorem ss_aug {i : Nat} {x : Str} {pos' : Pos} {op : Operator} {F : Int → Int → Int} (hN : X.N.Nodup) (hi : X.N[i]? = some x) (hx : Loc X.env.scope x) (ha : PE X a (tI g W fa)) (ho : PIp X op (ipI F)) (hf : X.fn x = true ∨ X.env.scope.names.lookup x = some .local) :
    PS X (.AugAssign (.Name x pos') op a pos) (tS g W (sAug F i fa)) :=
  (ps_aug hN hi hx ha ho hf).pimp fun D σ H ⟨ρ, env, st, E, S, h⟩ => by
    unfold sAug at h
    by_cases q : ∃ d, env[i]? = some (some d)
    · obtain ⟨d, q⟩ := q
      obtain ⟨v, e1, r⟩ := E.at_ i _ q
      rw [bind_ok (show cVar i env st = .ok d st by unfold cVar; rw [q])] at h
      refine ⟨v, e1, ρ, env, st, E, S, h.bind.mono fun d1 st1 ρ1 H1 x1 S1 h1 v1 hv => ?_⟩
      cases r <;> first | exact h1.bind.elim | skip
      cases hv <;> first | exact h1.bind.elim | skip
      exact ⟨_, _, rfl, rfl, (Post.pure (Post.pure h1.bind S1) S1) _ ((E.ext S x1).set i (.int _))⟩
    · have : cVar i env st = .no := by
        unfold cVar
        split
        · rename_i d e
          exact absurd ⟨d, e⟩ q
        · rfl
      rw [bind_no this] at h
      exact h.elim
theorem ss_for (hp : PassesOwn (model X.prog X.w) X.A X.env X.xe) (hc : X.calm = true) (hi : PI X tg iter (tW g W wi)) (ht : PG X tg (tG g W t)) (hb : PSs X ss (tS g W body)) (hs : ∀ x, foldedSetIterable iter X.env x = pure x) :
    PS X (.For tg iter ss [] pos) (tS g W (sFor wi t body)) :=
  (ps_for hp hc hi ht hb hs).pimp fun D σ H ⟨ρ, env, st, E, S, h⟩ => ⟨ρ, env, st, E, S, (Post.bind h).mono fun p st1 ρ1 H1 x1 S1 h1 hg J wok => by
    obtain ⟨G, Y, wk, hG, hY⟩ := wok.ex
    refine for_it wk (fun i σ H2 => ∃ ρ2 st2 env2, Ext ρ1 H1 ρ2 H2 ∧ Sim g ρ2 st2 H2 ∧ gdOk p.2 st2 = true ∧ EnvR g ρ2 H2 σ env2 ∧ Post g W ρ2 H2 (forLoop t body p.2 (p.1.drop i) env2 st2) fun fl _ ρ' H' => EndS g D fl ρ' H') ?_ ?_ ?_ ?_
    · exact ⟨ρ1, st1, env, Ext.refl _ _, S1, hg, E.ext S x1, h1⟩
    · rintro i σ H2 _ ⟨ρ2, st2, env2, x2, S2, hg2, _, _⟩
      exact hG ρ2 st2 H2 x2 S2 hg2
    · rintro i x σ2 H2 H3 hi ⟨ρ2, st2, env2, x2, S2, hg2, E2, hres⟩ y
      obtain ⟨d, hd, x3, S3, hv⟩ := hY i H2 x H3 ρ2 st2 hi x2 S2 hg2 y
      have hdrop : p.1.drop i = d :: p.1.drop (i + 1) := by
        obtain ⟨hl, e⟩ := List.getElem?_eq_some_iff.mp hd
        rw [List.drop_eq_getElem_cons hl, e]
      rw [hdrop] at hres
      refine ⟨ρ2, env2, st2, d, E2.ext S2 x3, S3, hv, (hres.ext x3).bind.mono fun env3 st3 ρ3 H3' x4 S4 h4 e1 e2 σ3 E3 O3 => ?_⟩
      subst e1; subst e2
      refine ⟨ρ3, env3, st3, E3, S4, h4.bind.mono fun fl st5 ρ5 H5 x5 S5 h5 => ?_⟩
      have x25 := (x2.trans x3).trans x5
      cases fl with
      | nx env5 =>
        obtain ⟨hg5, h6⟩ := chk_ok (show Post g W ρ5 H5 ((do chk p.2; forLoop t body p.2 (p.1.drop (i + 1)) env5 : M Fl) st5) _ from h5)
        exact fun σ5 E5 => ⟨ρ5, st5, env5, x25, S5, hg5, E5, h6⟩
      | cont env5 =>
        obtain ⟨hg5, h6⟩ := chk_ok (show Post g W ρ5 H5 ((do chk p.2; forLoop t body p.2 (p.1.drop (i + 1)) env5 : M Fl) st5) _ from h5)
        exact fun σ5 E5 => ⟨ρ5, st5, env5, x25, S5, hg5, E5, h6⟩
      | brk env5 => exact fun σ5 E5 => (Post.pure h5 S5) σ5 E5
      | ret d5 => exact fun v hv5 => (Post.pure h5 S5) v hv5
    · rintro σ2 H2 ⟨ρ2, st2, env2, x2, S2, hg2, E2, hres⟩
      rw [List.drop_length] at hres
      exact (Post.pure hres S2) σ2 E2⟩
theorem ss_while {n : Nat} (hp : PassesOwn (model X.prog X.w) X.A X.env X.xe) (hc : PT X c (tT g W tt)) (hb : PSs X ss (tS g W body)) : PS X (.While c ss [] pos) (tS g W (whileLoop tt body n)) :=
  (ps_while hp hc hb).pimp fun D σ H h => by
    refine ⟨fun m σ H => tS g W (whileLoop tt body m) D σ H, ⟨n, h⟩, fun m σ H ⟨ρ, env, st, E, S, h⟩ => ?_⟩
    cases m with
    | zero => exact h.elim
    | succ m =>
      refine ⟨ρ, env, st, E, S, (Post.bind h).mono fun k st1 ρ1 H1 x1 S1 h1 => ?_⟩
      cases k with
      | false => exact iteF ((Post.pure h1 S1) σ (E.ext S x1))
      | true =>
        refine iteT ⟨fun σ H => tS g W (whileLoop tt body m) D σ H, fun σ' H' h' => ⟨m, Nat.lt_succ_self _, h'⟩, ρ1, env, st1, E.ext S x1, S1, (Post.bind (show Post g W ρ1 H1 ((do let fl ← body env; match fl with | .nx env2 => whileLoop tt body m env2 | .cont env2 => whileLoop tt body m env2 | .brk env2 => pure (.nx env2) | .ret d => pure (.ret d) : M Fl) st1) _ from h1)).mono fun fl st2 ρ2 H2 x2 S2 h2 => ?_⟩
        cases fl with
        | nx env2 => exact fun σ2 E2 => ⟨ρ2, env2, st2, E2, S2, h2⟩
        | cont env2 => exact fun σ2 E2 => ⟨ρ2, env2, st2, E2, S2, h2⟩
        | brk env2 => exact fun σ2 E2 => (Post.pure h2 S2) σ2 E2
        | ret d => exact fun v hv => (Post.pure h2 S2) v hv
end
end PyI

/-! PyI15: defs: what a call gives back, what a body promises. -/
namespace PyI
open L2 PySem PySem.Spec PyProof.Rows

mutual
/-- every place that is named lies below n -/
def PV.bound (n : Nat) : PV → Bool
  | .obj k => decide (k < n)
  | .tup xs => PV.bounds n xs
  | .ctup xs => PV.bounds n xs
  | .ilst xs => PV.bounds n xs
  | _ => true
def PV.bounds (n : Nat) : List PV → Bool
  | [] => true
  | x :: r => PV.bound n x && PV.bounds n r
end
/-- behind a call: what the call alone has made goes, if nobody can have it -/
def gcP (st : Store) (d : PV) (st' : Store) : Store := if d.bound st.length = true ∧ st'.take st.length = st then st else st'
def callP (m : M Fl) : M PV := fun st => match m st with
  | .ok (.nx _) st' => .ok .non (gcP st .non st')
  | .ok (.ret d) st' => .ok d (gcP st d st')
  | .ok _ _ => .no
  | .ex e st' => .ex e st'
  | .no => .no
section
variable {g : Gd} {ρ ρ' : Rho} {H H' : Hp}
theorem cut_get {a : Addr} {n : Nat} (pre : ρ <+: ρ') (hn : n < ρ.length) (h : ρ'[n]? = some a) : ρ[n]? = some a := by
  obtain ⟨t, rfl⟩ := pre
  rw [List.getElem?_append_left hn] at h
  exact h
mutual
theorem RepV.cut_ (pre : ρ <+: ρ') : ∀ {d : PV} {v : V}, RepV g ρ' H v d → d.bound ρ.length = true → RepV g ρ H v d
  | .non, _, .non, _ => .non
  | .bl _, _, .bl b, _ => .bl b
  | .int _, _, .int b, _ => .int b
  | .str _, _, .str b, _ => .str b
  | .tup xs, _, .tup h r, hb => .tup h (RepL.cut_ pre r hb)
  | .ctup xs, _, .ctup h r, hb => .ctup h (RepL.cut_ pre r hb)
  | .ilst xs, _, .ilst h r, hb => .ilst h (RepL.cut_ pre r hb)
  | .obj n, _, .obj h, hb => .obj (cut_get pre (of_decide_eq_true hb) h)
  | .fn _, _, .fn x, _ => .fn x
  | .kd _, _, .kd x, _ => .kd x
theorem RepL.cut_ (pre : ρ <+: ρ') : ∀ {ds : List PV} {vs : List V}, RepL g ρ' H vs ds → PV.bounds ρ.length ds = true → RepL g ρ H vs ds
  | [], _, .nil, _ => .nil
  | x :: r, _, .cons a b, hb => by
    unfold PV.bounds at hb
    rw [Bool.and_eq_true] at hb
    exact .cons (RepV.cut_ pre a hb.1) (RepL.cut_ pre b hb.2)
end
mutual
theorem RepV.bound_ : ∀ {d : PV} {v : V}, RepV g ρ H v d → d.bound ρ.length = true
  | .non, _, .non => rfl
  | .bl _, _, .bl b => rfl
  | .int _, _, .int b => rfl
  | .str _, _, .str b => rfl
  | .tup xs, _, .tup h r => RepL.bound_ r
  | .ctup xs, _, .ctup h r => RepL.bound_ r
  | .ilst xs, _, .ilst h r => RepL.bound_ r
  | .obj n, _, .obj h => decide_eq_true (List.getElem?_eq_some_iff.mp h).1
  | .fn _, _, .fn x => rfl
  | .kd _, _, .kd x => rfl
theorem RepL.bound_ : ∀ {ds : List PV} {vs : List V}, RepL g ρ H vs ds → PV.bounds ρ.length ds = true
  | [], _, .nil => rfl
  | x :: r, _, .cons a b => by
    unfold PV.bounds
    rw [RepV.bound_ a, RepL.bound_ b]
    rfl
end
theorem HR.cut_ (pre : ρ <+: ρ') {u u0 : HO} {ob : Ob} (h0 : HR g ρ H u0 ob) (h : HR g ρ' H' u ob) : HR g ρ H' u ob := by
  cases u <;> cases ob <;> first | exact h.elim | skip
  · cases u0 <;> first | exact h0.elim | exact RepL.cut_ pre h (RepL.bound_ h0)
  · cases u0 <;> first | exact h0.elim | exact ⟨h.1, RepL.cut_ pre h.2 (RepL.bound_ h0.2)⟩
  · cases u0 <;> first | exact h0.elim | exact ⟨h.1, RepL.cut_ pre h.2 (RepL.bound_ h0.2)⟩
  · cases u0 <;> first | exact h0.elim | exact ⟨h.1, h.2.1, RepL.cut_ pre h.2.2 (RepL.bound_ h0.2.2)⟩
/-- the store as it was still tells the heap -/
theorem Sim.back {st st' : Store} (S : Sim g ρ st H) (E : Ext ρ H ρ' H') (S' : Sim g ρ' st' H') (h : st'.take st.length = st) : Ext ρ H ρ H' ∧ Sim g ρ st H' := by
  refine ⟨⟨List.prefix_refl _, fun a ha => .inl ha, E.there, E.keep⟩, S.len, S.nd, fun n a ob h1 h2 => ?_, S'.tabs⟩
  obtain ⟨u0, _, r0⟩ := S.at_ n a ob h1 h2
  have hn : n < st.length := (List.getElem?_eq_some_iff.mp h2).1
  have h2' : st'[n]? = Option.some ob := by
    rw [← h, List.getElem?_take_of_lt hn] at h2
    exact h2
  obtain ⟨u, eu, r⟩ := S'.at_ n a ob (pre_get E.pre h1) h2'
  exact ⟨u, eu, r0.cut_ E.pre r⟩
end
/-- what a def promises by its plain reading F -/
def spI (g : Gd) (n : Nat) (F : List PV → M PV) : Sp := fun vs H Q _ => vs.length = n ∧ ∃ ρ st xs, Sim g ρ st H ∧ RepL g ρ H vs xs ∧ Post g W0 ρ H (F xs st) fun d _ ρ' H' => ∀ v, RepV g ρ' H' v d → Q v H'
section
variable {X : Cx} {g : Gd} {W : XW} {e : Expr} {es : List Expr} {fs : Ln} {F : List PV → M PV} {x : Str} {p pos : Pos} {n k : Nat}
def cCall (n : Nat) (F : List PV → M PV) (ds : List PV) (fs : Ln) : Dn := fun env => do
  let xs ← fs env
  if (xs ++ ds).length = n then noEx (F (xs ++ ds)) else M.fail
theorem call_of {ds : List PV} {dvs : List V} (hd : ∀ ρ H, RepL g ρ H dvs ds) {E : XK} {ta : TA} (hta : ∀ σ H Q, tA g W fs σ H Q → ta σ H Q) {σ : L2.St} {H : Hp} {Q : VK} (h : tI g W (cCall n F ds fs) σ H Q) : tCall (spI g n F) dvs E ta σ H Q := by
  obtain ⟨ρ, env, st, Ev, S, h⟩ := h
  refine hta σ H _ ⟨ρ, env, st, Ev, S, h.bind.mono fun xs st1 ρ1 H1 x1 S1 h1 vs hvs => ?_⟩
  by_cases hl : (xs ++ ds).length = n
  · rw [if_pos hl] at h1
    have hr := hvs.append (hd ρ1 H1)
    refine ⟨by rw [hr.length]; exact hl, ρ1, st1, xs ++ ds, S1, hr, ?_⟩
    obtain ⟨a, st', e1, h2⟩ := h1.noEx
    rw [e1]
    exact h2
  · rw [if_neg hl] at h1; exact h1.elim
theorem s_call {K : PySem.W.Frag} {f : Addr} {fd : FuncData} {ps : List Str} {ds : List PV} {dvs : List V} {dus : List Value} (FO : FnOk X.prog X.w X.K X.mg X.base CX0 k f fd ps (spI g n F)) (hr : Room k X.A) (hg : Gl X x) (hm : X.mg x = some (.ref f)) (hk : PySem.W.keepIn X.K (.ref f) = true) (hb : Binds X.K fd ps dus) (hd : Vals dvs dus)
    (hd2 : ∀ ρ H, RepL g ρ H dvs ds) (ha : PA X (e :: es) (tA g W fs)) (hdb : (x == ("__debug__" : Str)) = false) (hs : noStar (e :: es) = true) : PE X (.Call (.Name x p) (e :: es) [] pos) (tI g W (cCall n F ds fs)) := by
  have h' : (!starred e) = true ∧ noStar es = true := by simpa [noStar] using hs
  exact (pe_call FO hr hg hm hk hb hd C8.pass0 ha hdb (star_plain (by simpa using h'.1) _ _) (star_all h'.2).1).pimp fun σ H Q h => call_of (E := C8.E0) hd2 (fun _ _ _ z => z) h
theorem s_call0 {f : Addr} {fd : FuncData} {ps : List Str} {ds : List PV} {dvs : List V} {dus : List Value} (FO : FnOk X.prog X.w X.K X.mg X.base CX0 k f fd ps (spI g n F)) (hr : Room k X.A) (hg : Gl X x) (hm : X.mg x = some (.ref f)) (hk : PySem.W.keepIn X.K (.ref f) = true) (hb : Binds X.K fd ps dus) (hd : Vals dvs dus)
    (hd2 : ∀ ρ H, RepL g ρ H dvs ds) (hdb : (x == ("__debug__" : Str)) = false) : PE X (.Call (.Name x p) [] [] pos) (tI g W (cCall n F ds (cArgs []))) :=
  (pe_call0 FO hr hg hm hk hb hd C8.pass0 hdb).pimp fun σ H Q h => call_of (E := C8.E0) hd2 (fun σ H Q ⟨ρ, env, st, E, S, h⟩ => (h ρ H (Ext.refl _ _) S) [] .nil) h
end
/-- the slots at a call -/
def startP (n : Nat) (xs : List PV) : EnvP := xs.map some ++ List.replicate (n - xs.length) none
theorem start_of {g : Gd} {ρ : Rho} {H : Hp} {N : List Str} {vs : List V} {xs : List PV} (h : RepL g ρ H vs xs) : EnvR g ρ H (L2.start N vs) (startP N.length xs) := by
  refine ⟨?_, fun i d e => ?_⟩
  · unfold L2.start startP
    rw [List.length_append, List.length_append, List.length_map, List.length_map, List.length_replicate, List.length_replicate, h.length]
  · unfold startP at e
    unfold L2.start
    by_cases hi : i < xs.length
    · rw [List.getElem?_append_left (by simpa using hi), List.getElem?_map] at e
      cases q : xs[i]? with
      | none => rw [q] at e; cases e
      | some y =>
        rw [q] at e
        cases e
        obtain ⟨v, e1, r⟩ := h.get q
        refine ⟨v, ?_, r⟩
        rw [List.getElem?_append_left (by rw [List.length_map, h.length]; exact hi), List.getElem?_map, e1]
        rfl
    · rw [List.getElem?_append_right (by simpa using hi), List.getElem?_replicate] at e
      split at e <;> cases e
theorem body_of {X : Cx} {g : Gd} {ss : List Stmt} {body : Sm} {vs : List V} {H : Hp} {Q : VK} {n : Nat} {E : XK} (h : spI g n (fun xs => callP (body (startP X.N.length xs))) vs H Q E) (hb : PSs X ss (tS g W0 body)) : ∃ t, PSs X ss t ∧ t { nx := fun _ H' => Q .non H', rt := Q } (L2.start X.N vs) H := by
  obtain ⟨_, ρ, st, xs, S, hv, h⟩ := h
  refine ⟨_, hb, ρ, startP X.N.length xs, st, start_of hv, S, ?_⟩
  replace h : Post g W0 ρ H (callP (body (startP X.N.length xs)) st) (fun d _ ρ' H' => ∀ v, RepV g ρ' H' v d → Q v H') := h
  unfold callP at h
  -- what the call ends with is shown by what the body ends with
  have gc : ∀ {d : PV} {st' : Store} {ρ' : Rho} {H' : Hp} {v : V}, Post g W0 ρ H (.ok d (gcP st d st')) (fun d _ ρ' H' => ∀ v, RepV g ρ' H' v d → Q v H') → Ext ρ H ρ' H' → Sim g ρ' st' H' → RepV g ρ' H' v d → Q v H' := fun {d st' ρ' H' v} h E S' r => by
    unfold gcP at h
    by_cases hc : d.bound st.length = true ∧ st'.take st.length = st
    · rw [if_pos hc] at h
      obtain ⟨E2, S2⟩ := S.back E S' hc.2
      exact h ρ H' E2 S2 v (r.cut_ E.pre (by rw [S.len]; exact hc.1))
    · rw [if_neg hc] at h
      exact h ρ' H' E S' v r
  cases q : body (startP X.N.length xs) st with
  | ok fl st' =>
    rw [q] at h
    intro ρ' H' E S'
    cases fl with
    | nx env => exact fun σ _ => gc h E S' .non
    | ret d => exact fun v r => gc h E S' r
    | brk _ => exact h.elim
    | cont _ => exact h.elim
  | ex e st' => rw [q] at h; exact h
  | no => rw [q] at h; exact h
end PyI

/-! PyG1: a generator expression's own context. -/
namespace PyI
open PySem PySem.Spec PyProof.Rows L2 GenW

/-- the context of a generator expression that was made at s -/
abbrev gblk (X : Cx) (s : Shared) (H : Hp) (scope : Scope) (cenv : Env) (fp : List Addr) (A : Around) (pn : List (Addr × Obj)) : Cx :=
  { X with s_0 := s, H_0 := H, env := cenv, outer := X.stack, stack := cenv :: X.stack, A := A, ex := fp, fn := fun x => scope.names.lookup x == some .cell, pn := pn, xe := fun _ _ => False }
section
variable {X : Cx} {pins : List (Addr × Obj)} {σ : L2.St} {H : Hp} {s : Shared}
theorem gen_start {scope : Scope} {own : List (Str × Nat)} {fp : List Addr} {code : Value} {A : Around} {pn : List (Addr × Obj)} {h5 : Heap} {g' : Array GenState} {t' : Nat} {d' : Drawn} {m : Str → Option Value}
    (I : Inv X pins σ H s) (ok : BlkOk X.N X.env.scope scope own) (hcell : ∀ y ∈ scope.names, y.2 ≠ .cell) (hN : X.N.Nodup) (hfp : ∀ b ∈ fp, FpOk X pins H b ∧ b < s.heap.objs.size)
    (hh : A.handled = none) (hfr : A.frames = some (genEnv scope (cloFrom X.env.cells scope.names []) s.heap.objs.size code builtinsNs X.env :: X.stack))
    (hk : ∀ b o, s.heap.get? b = some o → h5.get? b = some o) (hn : h5.Ns s.heap.objs.size m) (hg : AllBare g')
    (hpn : ∀ p ∈ pn, h5.get? p.1 = some p.2 ∧ s.heap.objs.size < p.1 ∧ ∀ v, p.2.data ≠ .cell v) :
    Inv (gblk X s H scope (genEnv scope (cloFrom X.env.cells scope.names []) s.heap.objs.size code builtinsNs X.env) fp A pn) [] (wipe σ (own.map (·.2))) H { s with heap := h5, gens := g', toks := t', drawn := d' } := by
  have hfree : ∀ y ∈ scope.names, y.2 = .free → ∃ c, X.env.cells.lookup y.1 = some c := fun y hy e => by
    rcases ok.free y hy e with k | k
    · exact I.ok.has _ (.inl k)
    · exact I.ok.has _ (.inr k)
  generalize hcenv : genEnv scope (cloFrom X.env.cells scope.names []) s.heap.objs.size code builtinsNs X.env = cenv at hfr ⊢
  have hL : cenv.locals = s.heap.objs.size := by rw [← hcenv]; rfl
  have hcl : cenv.cells = cloFrom X.env.cells scope.names [] := by rw [← hcenv]; rfl
  have hsc : cenv.scope = scope := by rw [← hcenv]; rfl
  have cm : ∀ {y c}, (y, c) ∈ cloFrom X.env.cells scope.names [] → X.env.cells.lookup y = some c ∧ c < s.heap.objs.size := fun {y c} hm => by
    rcases cloFrom_mem hm with hm | ⟨h1, rfl⟩
    · cases hm
    · obtain ⟨c, hc⟩ := hfree _ h1 rfl
      rw [hc]
      obtain ⟨w, z⟩ := I.cell _ _ hc
      exact ⟨rfl, z.lt⟩
  have mem : ∀ {y c}, cenv.cells.lookup y = some c → X.env.cells.lookup y = some c ∧ c < s.heap.objs.size := fun {y c} e => by
    rw [hcl] at e
    exact cm (PySem.mem_of_lookup e)
  have look : ∀ {y}, scope.names.lookup y = some .free → ∃ c, cenv.cells.lookup y = some c ∧ X.env.cells.lookup y = some c := fun {y} hl => by
    have hy : (y, NameKind.free) ∈ scope.names := PySem.mem_of_lookup hl
    obtain ⟨c', e'⟩ := mem_lookup (cloFrom_has (cells := X.env.cells) (acc := []) hy)
    rw [← hcl] at e'
    exact ⟨c', e', (mem e').1⟩
  have kind_no : ∀ {y}, scope.names.lookup y ≠ some .cell := fun {y} e => hcell _ (PySem.mem_of_lookup e) rfl
  have okB : (gblk X s H scope cenv fp A pn).Ok := by
    refine ⟨I.ok.mod, by show cenv.scope.kind = _; rw [hsc]; exact ok.kind, by show cenv.globals = _; rw [← hcenv]; exact I.ok.glob, by show cenv.builtins = _; rw [← hcenv]; rfl, by show s.heap.objs.size ≤ cenv.locals; rw [hL]; exact Nat.le_refl _,
      fun y z c e1 e2 => I.ok.inj y z c (mem e1).1 (mem e2).1, fun y hy => ?_, fun y c z e => ?_, fun _ => hh, hfr, .inr ⟨rfl, by show cenv.frame = _; rw [← hcenv]; rfl⟩, fun b hb => ⟨?_, fun y c e z => ?_⟩, I.bs, Nat.le_trans I.ok.bsz I.sz, fun b o e hb => ?_, fun b hb z => ?_, I.stack, I.stkFree⟩
    · show ∃ c, cenv.cells.lookup y = some c
      rcases hy with hy | hy
      · have hy : cenv.scope.names.lookup y = some .cell := hy
        rw [hsc] at hy
        exact absurd hy kind_no
      · have hy : cenv.scope.names.lookup y = some .free := hy
        rw [hsc] at hy
        obtain ⟨c, h1, _⟩ := look hy
        exact ⟨c, h1⟩
    · have z : (scope.names.lookup y == some NameKind.cell) = true := z
      exact absurd (by simpa using z) kind_no
    · show b ≠ cenv.locals
      rw [hL]; exact Nat.ne_of_lt (hfp b hb).2
    · exact (hfp b hb).1.2.2.2.2.1 y c (mem e).1 z
    · rcases (hfp b hb).1.2.2.2.1 with z | z
      · exact I.ok.noex b o e z
      · exact absurd (Nat.lt_of_lt_of_le (Heap.lt_size e) (Nat.le_trans I.ok.bsz z)) (Nat.lt_irrefl _)
    · rcases List.mem_cons.mp (I.stkSub b z) with z | z
      · exact (hfp b hb).1.2.1 z
      · exact (hfp b hb).1.2.2.1 z
  refine ⟨okB, rfl, hg, Un.kept hk, ⟨m, ?_, fun i y av e1 e2 e3 => ?_⟩, fun y c e => ?_, ?_, fun y c e => I.freeC y c (mem e).1, fun p hp => ?_, I.hok.kept hk, by rw [wipe_length]; exact I.len⟩
  · show Heap.Ns _ cenv.locals _
    rw [hL]; exact hn
  · obtain ⟨e2, hne⟩ := wipe_some e2
    have e3 : Vis cenv.scope y := e3
    rw [show Vis cenv.scope y = Vis scope y by rw [hsc]] at e3
    have hfr2 : scope.names.lookup y = some .free := by
      rcases e3 with e3 | e3 | e3
      · exfalso
        rcases ok.own _ (PySem.mem_of_lookup e3) (.inl rfl) with e' | e'
        · obtain ⟨p, hp, hpy⟩ := List.mem_map.mp e'
          have e3 := ok.ix p hp
          have : p.1 = y := hpy
          rw [this] at e3
          exact hne (List.mem_map.mpr ⟨p, hp, nodup_ix hN e3 e1⟩)
        · exact e' (List.mem_of_getElem? e1)
      · exact absurd e3 kind_no
      · exact e3
    obtain ⟨m0, hn0, hl⟩ := I.loc
    have hvis : Vis X.env.scope y := (ok.free _ (PySem.mem_of_lookup hfr2) rfl).elim (fun k => .inr (.inl k)) (fun k => .inr (.inr k))
    obtain ⟨w, r, q⟩ := hl i y av e1 e2 hvis
    refine ⟨w, r, .inr ⟨.inr (by show cenv.scope.names.lookup y = _; rw [hsc]; exact hfr2), ?_⟩⟩
    obtain ⟨c, h1, h2⟩ := look hfr2
    rcases q with ⟨k, _⟩ | ⟨_, c', e', z⟩
    · have k : X.env.scope.names.lookup y = some .local := k
      rcases ok.free _ (PySem.mem_of_lookup hfr2) rfl with k' | k' <;> rw [show X.env.scope.names.lookup y = _ from k'] at k <;> cases k
    · rw [h2] at e'; cases e'
      exact ⟨c, h1, z.keeps hk⟩
  · obtain ⟨w, z⟩ := I.cell y c (mem e).1
    exact ⟨w, z.keeps hk⟩
  · show H cenv.locals = none
    rw [hL]; exact I.hok.fresh (Nat.le_refl _)
  · obtain ⟨q1, q2, q3⟩ := hpn p (by simpa using hp)
    refine ⟨q1, I.hok.fresh (Nat.le_of_lt q2), by show p.1 ≠ cenv.locals; rw [hL]; exact Nat.ne_of_gt q2, fun z => ?_, q3⟩
    exact absurd (Nat.lt_of_lt_of_le (by
      rcases List.mem_cons.mp (I.stkSub p.1 z) with z | z
      · rw [z]; exact I.lt
      · obtain ⟨_, o, ho, _⟩ := I.ok.funs.mem z
        exact Nat.lt_of_lt_of_le (Heap.lt_size ho) I.sz) (Nat.le_of_lt q2)) (Nat.lt_irrefl _)
end
end PyI

/-! PyG2: the turns of a generator expression whose items are truth values, pulled by any or all. -/
namespace PyI
open PySem PySem.Spec PyProof.Rows L2 GenW

theorem over_gx {A : Around} {elt tg iter : Expr} {ifs : List Expr} {scope : Scope} {pos : Pos} {it acc : Value} {env : Env} :
    A.over (.compLoop (.GeneratorExp elt [⟨tg, iter, ifs, 0⟩] scope pos) 0 it acc env) [] = A.deeper env := by
  first
    | rfl
    | (obtain ⟨hd, d, fr, gs, u⟩ := A; simp [Around.over, Around.deeper, marksOver, frameCount, unitsOf, envsOf, guardsOf, pushEnvs, pushGuards, Code.envs, Code.env?, Code.isFrame, Code.guards, Code.isGuard, Code.weight, Code.frames, Code.isCreation, Code.isCaller, Code.cUnits])
theorem over_gs {A : Around} {elt tg iter : Expr} {ifs : List Expr} {scope : Scope} {pos : Pos} {it acc : Value} {env : Env} :
    A.over (.compStart (.GeneratorExp elt [⟨tg, iter, ifs, 0⟩] scope pos) 0 it acc env) [] = A.deeper env := by
  first
    | rfl
    | (obtain ⟨hd, d, fr, gs, u⟩ := A; simp [Around.over, Around.deeper, marksOver, frameCount, unitsOf, envsOf, guardsOf, pushEnvs, pushGuards, Code.envs, Code.env?, Code.isFrame, Code.guards, Code.isGuard, Code.weight, Code.frames, Code.isCreation, Code.isCaller, Code.cUnits])

/-- behind the walk: the def goes on -/
def GDone (X : Cx) (pins : List (Addr × Obj)) (σ : L2.St) (Q : Hp → Prop) (s : Shared) : Prop :=
  ∃ H', Q H' ∧ ∀ s'' : Shared, s''.os = s.os → AllBare s''.gens → (∀ b o, s.heap.get? b = some o → s''.heap.get? b = some o) → Inv X pins σ H' s''
/-- an item is handed out: a truth value; the one that stops the walk, or another -/
def gProto (X : Cx) (pins : List (Addr × Obj)) (σ : L2.St) (stop : Bool) (Q : Bool → Hp → Prop) (ga : Addr) (gn : Nat) : Protocol := fun n s₀ v s kap =>
  ∃ b, v = .bool b ∧ s.heap.IsGen ga gn ∧ s.heap.NoLimit ∧ AllBare s.gens ∧ (b = stop → GDone X pins σ (Q stop) s) ∧
    (b ≠ stop → ∀ s'' : Shared, s''.os = s.os → AllBare s''.gens → (∀ b o, s.heap.get? b = some o → s''.heap.get? b = some o) → kap (.send .none) s'')
def gEnd (X : Cx) (pins : List (Addr × Obj)) (σ : L2.St) (stop : Bool) (Q : Bool → Hp → Prop) : GenEnd := fun n s₀ r s₁ => r = .ok .next ∧ (AllBare s₁.gens ∧ GDone X pins σ (Q (!stop)) s₁)

/-- what the turns are to reach; W by the turn and a measure -/
def GTurns (J : It) (g : TG) (tt : TT) (te : TE) (vs : List Nat) (σ : L2.St) (stop : Bool) (Q : Bool → Hp → Prop) (W : Nat → Nat → Hp → Prop) : Prop :=
  ∀ i m H, W i m H → (J.stop i H ∧ Q (!stop) H) ∨ (J.go i H ∧ ∃ Nx : Hp → Prop, (∀ H', Nx H' → ∃ m', m' < m ∧ W (i + 1) m' H') ∧ ∀ x H', J.yld i H x H' → g x (wipe σ vs) H' fun σ2 H2 => wipe σ2 vs = wipe σ vs ∧ tt σ2 H2 fun b H3 =>
    if b = true then te σ2 H3 fun y H4 => ∃ c, y = .bl c ∧ (c = stop → Q stop H4) ∧ (c ≠ stop → Nx H4) else Nx H3)

section
variable {X : Cx} {pins : List (Addr × Obj)} {σ : L2.St} {H3 : Hp} {s3 : Shared}
theorem seg_gx {elt tg iter : Expr} {ifs : List Expr} {scope : Scope} {own : List (Str × Nat)} {pos : Pos} {g : TG} {tt : TT} {te : TE} {J : It} {fp : List Addr} {it ga : Addr} {gn : Nat} {go : Obj} {tn : Nat → Heap → Prop} {ce : Env} {B : Around} {stop : Bool} {Q : Bool → Hp → Prop} {W : Nat → Nat → Hp → Prop}
    (I3 : Inv X pins σ H3 s3) (hc : X.calm = true) (f3 : ∀ b ∈ fp, FpOk X pins H3 b ∧ b < s3.heap.objs.size) (T : Turn X.prog X.w X.K tg J fp it tn) (hco : ce.scope.isCoroutine = false)
    (hgo : ∀ h : Heap, h.get? ga = some go → h.IsGen ga gn) (hgf : ∀ b ∈ fp, ga ≠ b)
    (pg : PG (gblk X s3 H3 scope ce fp (B.deeper ce) [(ga, go)]) tg g) (pt : PTs (gblk X s3 H3 scope ce fp (B.deeper ce) [(ga, go)]) ifs tt) (pe : PE (gblk X s3 H3 scope ce fp (B.deeper ce) [(ga, go)]) elt te)
    (turn : GTurns J g tt te (own.map (·.2)) σ stop Q W) :
    ∀ (m n i : Nat) (s₀ s : Shared) (H : Hp), m < n → Inv (gblk X s3 H3 scope ce fp (B.deeper ce) [(ga, go)]) [] (wipe σ (own.map (·.2))) H s → tn i s.heap → (∀ b ∈ fp, H b = none) → W i m H →
      Seg (model X.prog X.w) B (gEnd X pins σ stop Q) (gProto X pins σ stop Q ga gn) n s₀ (.compLoop (.GeneratorExp elt [⟨tg, iter, ifs, 0⟩] scope pos) 0 (.ref it) .none ce)
        ((model X.prog X.w).den (.compLoop (.GeneratorExp elt [⟨tg, iter, ifs, 0⟩] scope pos) 0 (.ref it) .none ce)) [] s := by
  have stat : ∀ {σ' : L2.St} {H' : Hp} {s' : Shared}, Inv (gblk X s3 H3 scope ce fp (B.deeper ce) [(ga, go)]) [] σ' H' s' → (∀ b ∈ fp, H' b = none) → ∀ b ∈ fp, FpOk (gblk X s3 H3 scope ce fp (B.deeper ce) [(ga, go)]) [] H' b := fun {σ' H' s'} I' hn b hb =>
    ⟨hn b hb, (I'.ok.exf b hb).1, I'.ok.exfs b hb, .inl hb, fun x c e => (I'.ok.exf b hb).2 x c e, fun p hp => by
      have hp : p ∈ [(ga, go)] ++ ([] : List (Addr × Obj)) := hp
      rw [List.append_nil] at hp
      rw [List.mem_singleton.mp hp]
      exact hgf b hb⟩
  have isG : ∀ {ps : List (Addr × Obj)} {σ' : L2.St} {H' : Hp} {s' : Shared}, Inv (gblk X s3 H3 scope ce fp (B.deeper ce) [(ga, go)]) ps σ' H' s' → s'.heap.IsGen ga gn := fun {ps σ' H' s'} I' =>
    hgo _ (I'.pin (ga, go) (List.mem_append_left _ (List.mem_singleton.mpr rfl))).1
  have moved : ∀ {ps : List (Addr × Obj)} {σ' : L2.St} {H' : Hp} {s' s'' : Shared}, Inv (gblk X s3 H3 scope ce fp (B.deeper ce) [(ga, go)]) ps σ' H' s' → s''.os = s'.os → AllBare s''.gens → (∀ b o, s'.heap.get? b = some o → s''.heap.get? b = some o) →
      Inv (gblk X s3 H3 scope ce fp (B.deeper ce) [(ga, go)]) ps σ' H' s'' := fun {ps σ' H' s' s''} I' ho hb hk =>
    I'.call' (ch := []) ho (Un.kept hk) (I'.hok.kept hk) hb fun b z => by simp at z
  have done : ∀ {ps : List (Addr × Obj)} {σ' : L2.St} {H' : Hp} {s' : Shared} {P : Hp → Prop}, Inv (gblk X s3 H3 scope ce fp (B.deeper ce) [(ga, go)]) ps σ' H' s' → P H' → GDone X pins σ P s' := fun {ps σ' H' s' P} I' hP =>
    ⟨H', hP, fun s'' ho hb hk => by
      have J' := moved I' ho hb hk
      exact I3.call' (ch := fp) J'.os J'.base J'.hok J'.bare fun b hb => ⟨(f3 b hb).1.2.2.2.1, (f3 b hb).1.2.1, (f3 b hb).1.2.2.2.2.1, (f3 b hb).1.2.2.2.2.2⟩⟩
  intro m
  induction m using Nat.strongRecOn with
  | ind m ih =>
    intro n i s₀ s H hmn I st nf w
    show Seg _ B _ _ n s₀ _ ((compTurn (.GeneratorExp elt [⟨tg, iter, ifs, 0⟩] scope pos) 0 (.ref it) .none ce).onRaise (leaving ce)) [] s
    rw [compTurn_gen, Sem.onRaise_eq_wrap]
    refine seg_bind_wrap (wpAny_standAt ?_)
    rcases turn i m H w with ⟨hstop, hQ⟩ | ⟨hgoes, Nx, hNx, step⟩
    · refine seg_bind_wrap ?_
      rw [over_gx]
      refine thnF (T.done (gblk X s3 H3 scope ce fp (B.deeper ce) [(ga, go)]) rfl rfl rfl hc i [] s _ H (fun _ _ => False) I (stat I nf) st hstop) fun r s6 ⟨hr, I6⟩ => ?_
      subst hr
      exact seg_end (.ok .next) ⟨rfl, I6.bare, done I6 hQ⟩
    · refine seg_bind_wrap ?_
      rw [over_gx]
      refine thnF (T.item (gblk X s3 H3 scope ce fp (B.deeper ce) [(ga, go)]) rfl rfl rfl hc i [] s _ H (fun _ _ => False) I (stat I nf) st hgoes) fun r s6 ⟨u, hr, h6⟩ => ?_
      subst hr
      refine seg_bind_wrap ?_
      rw [over_gx]
      refine thnF h6 fun _ s7 ⟨x, H7, I7, r7, y7, st7, n7⟩ => ?_
      have I7' := I7.pinned (stat I7 n7) (T.obj _ _ st7)
      refine seg_bind_wrap ?_
      rw [over_gx]
      refine thnF (pg.run _ s7 _ H7 x u _ I7' r7 (step x H7 y7)) fun _ s8 ⟨σ8, H8, I8, hw8, q8⟩ => ?_
      refine seg_bind_wrap ?_
      rw [over_gx]
      refine thnF (pt.run _ s8 σ8 H8 _ I8 q8) fun b s9 ⟨H9, I9, q9⟩ => ?_
      have fin : ∀ {s' : Shared} {H' : Hp} {n' : Nat} {s₀' : Shared}, m ≤ n' → Inv (gblk X s3 H3 scope ce fp (B.deeper ce) [(ga, go)]) ([] ++ pinsAt fp s7.heap) σ8 H' s' → Nx H' →
          Seg (model X.prog X.w) B (gEnd X pins σ stop Q) (gProto X pins σ stop Q ga gn) n' s₀' (.compLoop (.GeneratorExp elt [⟨tg, iter, ifs, 0⟩] scope pos) 0 (.ref it) .none ce)
            ((model X.prog X.w).den (.compLoop (.GeneratorExp elt [⟨tg, iter, ifs, 0⟩] scope pos) 0 (.ref it) .none ce)) [] s' := fun {s' H' n' s₀'} hmn' I' nx => by
        obtain ⟨m', hm, w'⟩ := hNx H' nx
        have pin' : ∀ b ∈ fp, ∀ o, s7.heap.get? b = some o → s'.heap.get? b = some o ∧ H' b = none := fun b hb o e =>
          let z := I'.pin (b, o) (List.mem_append_right _ (List.mem_append_right _ (mem_pinsAt hb e)))
          ⟨z.1, z.2.1⟩
        have hl : (wipe σ (own.map (·.2))).length = σ8.length := by rw [← hw8, wipe_length]
        refine ih m' hm n' (i + 1) s₀' s' H' (by omega) ((I'.unpinned (pins := [])).weak hl (fun j v e => ?_)) (T.keep _ _ _ st7 fun b hb o e => (pin' b hb o e).1) (fun b hb => ?_) w'
        · rw [← hw8] at e
          exact (wipe_some e).1
        · obtain ⟨o, e, _⟩ := T.obj _ _ st7 b hb
          exact (pin' b hb o e).2
      cases b with
      | false =>
        simp only [Bool.false_eq_true, if_false] at q9 ⊢
        exact seg_again rfl (fin (by omega) I9 q9)
      | true =>
        simp only [if_true] at q9 ⊢
        have hy : ∀ v, yieldOut ce v = yieldValue v := fun v => by simp only [yieldOut, hco, Bool.false_eq_true, if_false]
        simp only [hy]
        rw [Sem.bind_eq_wrap', Sem.bind_eq_wrap', Sem.wrap_wrap, Sem.wrap_wrap]
        refine seg_wrap ?_
        rw [over_gx]
        refine thnF (pe.run _ s9 σ8 H9 _ I9 q9) fun z s10 ⟨yv, H10, I10, r10, c, ec, hq1, hq2⟩ => ?_
        subst ec
        obtain rfl : z = .bool c := r10
        obtain ⟨n, rfl⟩ : ∃ k, n = k + 1 := ⟨n - 1, by omega⟩
        refine seg_at (seg_yield rfl rfl rfl ⟨c, rfl, isG I10, I10.nolimit, I10.bare, fun e => done I10 (hq1 e), fun e s'' ho hb hk => ?_⟩)
        exact seg_again rfl (fin (by omega) (moved I10 ho hb hk) (hq2 e))
end
end PyI

/-! PyG3: any, all pull a generator expression. -/
namespace PyI
open PySem PySem.Spec PyProof.Rows L2 GenW

section
variable {X : Cx} {pins : List (Addr × Obj)} {σ : L2.St}
theorem drv_any {A : Around} {Q : Bool → Hp → Prop} {ga : Addr} {gn : Nat} {R : Result → Shared → Prop} (hh : A.handled = none) (hroom : A.depth < recursionLimit)
    (hR : ∀ b H' s', Inv X pins σ H' s' → Q b H' → R (.ok (.ret (.bool b))) s') : ∀ (n : Nat) (s : Shared) (gs : GenState), s.heap.NoLimit → s.heap.IsGen ga gn → s.gens[gn]? = some gs →
      gs.Goes (model X.prog X.w) A.in1.in1 (gEnd X pins σ true Q) (gProto X pins σ true Q ga gn) n (.send .none) (s.setGen gn .running) →
      codeAny (model X.prog X.w) A (.builtin "any.loop" ⟨[.ref ga], []⟩) R s := by
  intro n
  induction n with
  | zero =>
    intro s gs hl hg hgs hgo
    refine codeAny_builtin F.entry_any_loop ?_
    rw [Around.under_plainId F.plain_any_loop _]
    show wpAny _ A.in1 (pyNext (.ref ga) >>= _) _ _ s
    have hlt : gn < s.gens.size := (Array.getElem?_eq_some_iff.mp hgs).1
    refine wpAny_bind (wpAny_gsz (n := gn + 1) hlt (wpAny_pyNext_genexpQ (A := A.in1) hh hl hroom hg hgs hgo (fun v s₁ gs' hb hY => ?_) fun s₁ hP h' hk => ?_))
    · intro hsz
      have hsz1 : gn < s₁.gens.size := by
        have q : (s₁.setGen gn gs').gens.size = s₁.gens.size := setGen_size _ _ _
        omega
      obtain ⟨b, rfl, isg, nol, bare, h1, h2⟩ := hY
      refine wpAny_bind (wpAny_holding (wpAny_truthy_bool ?_))
      refine wpAny_bind (wpAny_letGo ?_)
      cases b with
      | true =>
        simp only [if_true]
        refine wpAny_bind (wpAny_rule (wpAny_pure ?_))
        obtain ⟨H', hQ, hI⟩ := h1 rfl
        exact hR true H' _ (hI _ rfl (allBare_setGen bare hb) fun b o e => e) hQ
      | false =>
        exact (h2 (by decide) ((s₁.setGen gn gs').setGen gn .running) rfl (allBare_setGen (allBare_setGen bare hb) rfl) fun b o e => e).elim
    · intro hsz
      obtain ⟨bare, H', hQ, hI⟩ := hP
      refine wpAny_bind (wpAny_rule (wpAny_pure ?_))
      exact hR false H' _ (hI _ rfl (allBare_setGen bare rfl) hk) hQ
  | succ n ih =>
    intro s gs hl hg hgs hgo
    refine codeAny_builtin F.entry_any_loop ?_
    rw [Around.under_plainId F.plain_any_loop _]
    show wpAny _ A.in1 (pyNext (.ref ga) >>= _) _ _ s
    have hlt : gn < s.gens.size := (Array.getElem?_eq_some_iff.mp hgs).1
    refine wpAny_bind (wpAny_gsz (n := gn + 1) hlt (wpAny_pyNext_genexpQ (A := A.in1) hh hl hroom hg hgs hgo (fun v s₁ gs' hb hY => ?_) fun s₁ hP h' hk => ?_))
    · intro hsz
      have hsz1 : gn < s₁.gens.size := by
        have q : (s₁.setGen gn gs').gens.size = s₁.gens.size := setGen_size _ _ _
        omega
      obtain ⟨b, rfl, isg, nol, bare, h1, h2⟩ := hY
      refine wpAny_bind (wpAny_holding (wpAny_truthy_bool ?_))
      refine wpAny_bind (wpAny_letGo ?_)
      cases b with
      | true =>
        simp only [if_true]
        refine wpAny_bind (wpAny_rule (wpAny_pure ?_))
        obtain ⟨H', hQ, hI⟩ := h1 rfl
        exact hR true H' _ (hI _ rfl (allBare_setGen bare hb) fun b o e => e) hQ
      | false =>
        simp only [Bool.false_eq_true, if_false]
        refine wpAny_pure ⟨plainId_quiet F.plain_any_loop _, ih _ gs' nol isg (setGen_at hsz1) ?_⟩
        exact h2 (by decide) ((s₁.setGen gn gs').setGen gn .running) rfl (allBare_setGen (allBare_setGen bare hb) rfl) fun b o e => e
    · intro hsz
      obtain ⟨bare, H', hQ, hI⟩ := hP
      refine wpAny_bind (wpAny_rule (wpAny_pure ?_))
      exact hR false H' _ (hI _ rfl (allBare_setGen bare rfl) hk) hQ
theorem drv_all {A : Around} {Q : Bool → Hp → Prop} {ga : Addr} {gn : Nat} {R : Result → Shared → Prop} (hh : A.handled = none) (hroom : A.depth < recursionLimit)
    (hR : ∀ b H' s', Inv X pins σ H' s' → Q b H' → R (.ok (.ret (.bool b))) s') : ∀ (n : Nat) (s : Shared) (gs : GenState), s.heap.NoLimit → s.heap.IsGen ga gn → s.gens[gn]? = some gs →
      gs.Goes (model X.prog X.w) A.in1.in1 (gEnd X pins σ false Q) (gProto X pins σ false Q ga gn) n (.send .none) (s.setGen gn .running) →
      codeAny (model X.prog X.w) A (.builtin "all.loop" ⟨[.ref ga], []⟩) R s := by
  intro n
  induction n with
  | zero =>
    intro s gs hl hg hgs hgo
    refine codeAny_builtin F.entry_all_loop ?_
    rw [Around.under_plainId F.plain_all_loop _]
    show wpAny _ A.in1 (pyNext (.ref ga) >>= _) _ _ s
    have hlt : gn < s.gens.size := (Array.getElem?_eq_some_iff.mp hgs).1
    refine wpAny_bind (wpAny_gsz (n := gn + 1) hlt (wpAny_pyNext_genexpQ (A := A.in1) hh hl hroom hg hgs hgo (fun v s₁ gs' hb hY => ?_) fun s₁ hP h' hk => ?_))
    · intro hsz
      have hsz1 : gn < s₁.gens.size := by
        have q : (s₁.setGen gn gs').gens.size = s₁.gens.size := setGen_size _ _ _
        omega
      obtain ⟨b, rfl, isg, nol, bare, h1, h2⟩ := hY
      refine wpAny_bind (wpAny_holding (wpAny_truthy_bool ?_))
      refine wpAny_bind (wpAny_letGo ?_)
      cases b with
      | false =>
        simp only [Bool.false_eq_true, if_false]
        refine wpAny_bind (wpAny_rule (wpAny_pure ?_))
        obtain ⟨H', hQ, hI⟩ := h1 rfl
        exact hR false H' _ (hI _ rfl (allBare_setGen bare hb) fun b o e => e) hQ
      | true =>
        exact (h2 (by decide) ((s₁.setGen gn gs').setGen gn .running) rfl (allBare_setGen (allBare_setGen bare hb) rfl) fun b o e => e).elim
    · intro hsz
      obtain ⟨bare, H', hQ, hI⟩ := hP
      refine wpAny_bind (wpAny_rule (wpAny_pure ?_))
      exact hR true H' _ (hI _ rfl (allBare_setGen bare rfl) hk) hQ
  | succ n ih =>
    intro s gs hl hg hgs hgo
    refine codeAny_builtin F.entry_all_loop ?_
    rw [Around.under_plainId F.plain_all_loop _]
    show wpAny _ A.in1 (pyNext (.ref ga) >>= _) _ _ s
    have hlt : gn < s.gens.size := (Array.getElem?_eq_some_iff.mp hgs).1
    refine wpAny_bind (wpAny_gsz (n := gn + 1) hlt (wpAny_pyNext_genexpQ (A := A.in1) hh hl hroom hg hgs hgo (fun v s₁ gs' hb hY => ?_) fun s₁ hP h' hk => ?_))
    · intro hsz
      have hsz1 : gn < s₁.gens.size := by
        have q : (s₁.setGen gn gs').gens.size = s₁.gens.size := setGen_size _ _ _
        omega
      obtain ⟨b, rfl, isg, nol, bare, h1, h2⟩ := hY
      refine wpAny_bind (wpAny_holding (wpAny_truthy_bool ?_))
      refine wpAny_bind (wpAny_letGo ?_)
      cases b with
      | false =>
        simp only [Bool.false_eq_true, if_false]
        refine wpAny_bind (wpAny_rule (wpAny_pure ?_))
        obtain ⟨H', hQ, hI⟩ := h1 rfl
        exact hR false H' _ (hI _ rfl (allBare_setGen bare hb) fun b o e => e) hQ
      | true =>
        simp only [if_true]
        refine wpAny_pure ⟨plainId_quiet F.plain_all_loop _, ih _ gs' nol isg (setGen_at hsz1) ?_⟩
        exact h2 (by decide) ((s₁.setGen gn gs').setGen gn .running) rfl (allBare_setGen (allBare_setGen bare hb) rfl) fun b o e => e
    · intro hsz
      obtain ⟨bare, H', hQ, hI⟩ := hP
      refine wpAny_bind (wpAny_rule (wpAny_pure ?_))
      exact hR true H' _ (hI _ rfl (allBare_setGen bare rfl) hk) hQ
theorem seg_gs {elt tg iter : Expr} {ifs : List Expr} {scope : Scope} {pos : Pos} {ce : Env} {B : Around} {it : Addr} {R : GenEnd} {Y : Protocol} {n : Nat} {s₀ s : Shared} (hself : ∀ (A : Around) (Q : Value → Shared → Prop) (E : Value → Shared → Prop), Q (.ref it) s → wpAny (model X.prog X.w) A (pyIter (.ref it)) Q E s)
    (loop : Seg (model X.prog X.w) B R Y n s₀ (.compLoop (.GeneratorExp elt [⟨tg, iter, ifs, 0⟩] scope pos) 0 (.ref it) .none ce)
        ((model X.prog X.w).den (.compLoop (.GeneratorExp elt [⟨tg, iter, ifs, 0⟩] scope pos) 0 (.ref it) .none ce)) [] s) :
    Seg (model X.prog X.w) B R Y n s₀ (.compStart (.GeneratorExp elt [⟨tg, iter, ifs, 0⟩] scope pos) 0 (.ref it) .none ce)
        ((model X.prog X.w).den (.compStart (.GeneratorExp elt [⟨tg, iter, ifs, 0⟩] scope pos) 0 (.ref it) .none ce)) [] s := by
  show Seg _ B _ _ _ s₀ _ ((compStart (.GeneratorExp elt [⟨tg, iter, ifs, 0⟩] scope pos) 0 (.ref it) .none ce).onRaise (leaving ce)) [] s
  unfold compStart
  rw [Sem.onRaise_eq_wrap]
  show Seg _ B _ _ _ s₀ _ ((ask >>= _).wrap _ _ _ _) [] s
  refine seg_bind_wrap (wpAny_askSetting ?_)
  split
  · exact seg_again rfl loop
  · first
      | exact seg_bind_wrap (wpAny_rule (seg_bind_wrap (wpAny_standAt (seg_bind_wrap (hself _ _ _ (seg_again rfl loop))))))
      | (refine seg_bind_wrap (wpAny_rule ?_); show Seg _ B _ _ _ s₀ _ ((standAt iter.pos >>= _).wrap _ _ _ _) [] s; exact seg_bind_wrap (wpAny_standAt (seg_bind_wrap (hself _ _ _ (seg_again rfl loop)))))
end
end PyI

/-! PyG4: any(.. for ..), all(.. for ..) with items of any kind that end as truth values. -/
namespace PyI
open PySem PySem.Spec PyProof.Rows L2 GenW GxR

/-- the around of a generator expression's code, pulled by any or all -/
abbrev gAr (X : Cx) (ce : Env) : Around := X.A.in1.in1.deeper ce
abbrev gCe (X : Cx) (scope : Scope) (cl : List (Str × Addr)) (C : Addr) (code : Value) : Env := genEnv scope cl C code builtinsNs X.env
section
variable {X : Cx} {pins : List (Addr × Obj)} {σ : L2.St} {H : Hp} {s : Shared}
theorem gx_made {c P : Addr} {elt tg iter : Expr} {ifs : List Expr} {scope : Scope} {own : List (Str × Nat)} {gpos : Pos} {g : TG} {tt : TT} {te : TE} {wi : TI} {k : Nat} {Q' : Value → Shared → Prop} {RR : It → Hp → Prop}
    (hr : Room (k + 3) X.A) (hc : X.calm = true) (hN : X.N.Nodup) (TB : TabB X.base X.mg c P) (hcode : X.env.code = .ref c) (ok : BlkOk X.N X.env.scope scope own) (hco : scope.isCoroutine = false) (hcell : ∀ y ∈ scope.names, y.2 ≠ .cell)
    (hdot : scope.names.lookup (".0" : Str) = some NameKind.local) (hi : PI X tg iter wi)
    (hg : ∀ (s : Shared) (H : Hp) (C : Addr) (cl : List (Str × Addr)) (fp : List Addr) (code : Value) (pn : List (Addr × Obj)), PG (gblk X s H scope (gCe X scope cl C code) fp (gAr X (gCe X scope cl C code)) pn) tg g)
    (ht : ∀ (s : Shared) (H : Hp) (C : Addr) (cl : List (Str × Addr)) (fp : List Addr) (code : Value) (pn : List (Addr × Obj)), PTs (gblk X s H scope (gCe X scope cl C code) fp (gAr X (gCe X scope cl C code)) pn) ifs tt)
    (he : ∀ (s : Shared) (H : Hp) (C : Addr) (cl : List (Str × Addr)) (fp : List Addr) (code : Value) (pn : List (Addr × Obj)), PE (gblk X s H scope (gCe X scope cl C code) fp (gAr X (gCe X scope cl C code)) pn) elt te)
    (hs : ∀ v, genFold iter X.env v = pure v) (I : Inv X pins σ H s) (h : wi σ H fun J H1 => TabG H1 P ∧ RR J H1)
    (hQ : ∀ (ga : Addr) (gn : Nat) (gs : GenState) (s5 : Shared) (J : It) (H1 H2 : Hp), RR J H1 → Tabbed P H1 H2 → s5.heap.NoLimit → s5.heap.IsGen ga gn → s5.gens[gn]? = some gs →
      (∀ (stop : Bool) (Q : Bool → Hp → Prop) (W : Nat → Nat → Hp → Prop), GTurns J g tt te (own.map (·.2)) σ stop Q W → (∃ m, W 0 m H2) →
        ∃ n, gs.Goes (model X.prog X.w) X.A.in1.in1 (gEnd X pins σ stop Q) (gProto X pins σ stop Q ga gn) n (.send .none) (s5.setGen gn .running)) → Q' (.ref ga) s5) :
    wpAny (model X.prog X.w) X.A (eval (.GeneratorExp elt [⟨tg, iter, ifs, 0⟩] scope gpos) X.env) Q' X.xe s := by
  have hfree : ∀ y ∈ scope.names, y.2 = .free → ∃ c, X.env.cells.lookup y.1 = some c := fun y hy e => by
    rcases ok.free y hy e with k | k
    · exact I.ok.has _ (.inl k)
    · exact I.ok.has _ (.inr k)
  refine wpAny_GeneratorExp_make hco (closure_ok hfree) hcell hdot ok.kind hr.depth ?_ hs
  refine thn (hi.run pins s σ H _ I h) fun xv s1 hx => thn hx fun itv s2 h2 => ?_
  obtain ⟨it, fp, tn, J, H2, e, I2, T, st2, f2, ⟨ps, hP, htr⟩, q⟩ := h2
  subst e
  refine ⟨I2.nolimit, ?_⟩
  have hPs : s2.heap.get? P = some { cls := .none, data := .fields ps } := I2.hok P _ hP
  have cd : PySem.W.CodeHd s2.heap c P := TB.code.keeps fun b u e => I2.bk b u e
  have sz : ∀ b ∈ fp, b < s2.heap.objs.size := fun b hb => by
    obtain ⟨o, e, _⟩ := T.obj _ _ st2 b hb
    exact Heap.lt_size e
  have nP : ∀ b ∈ fp, b ≠ P := fun b hb z => by
    have := (f2 b hb).1
    rw [z, hP] at this
    cases this
  have cont : ∀ (code : Value) (h3 : Heap) (tk : Nat) (ps' : Array Value), Heap.ExtBut P s2.heap h3 → s2.heap.objs.size ≤ h3.objs.size → h3.get? P = some { cls := .none, data := .fields ps' } → (∃ more, ps' = ps ++ more) → TriplesOk ps'.toList →
      wpAny (model X.prog X.w) X.A (builtinsFor X.env.globals X.env.builtins) (fun bi s₄ =>
        ∀ h', h'.Ns s₄.heap.objs.size (fun y => if y = ".0" then some (.ref it) else none) → Heap.SameBut s₄.heap.objs.size (s₄.heap.push { cls := .type "frame", data := .dict #[] }) h' →
          Q' (.ref h'.objs.size) { s₄ with
            gens := s₄.gens.push (.fresh (.compStart (.GeneratorExp elt [⟨tg, iter, ifs, 0⟩] scope gpos) 0 (.ref it) .none (genEnv scope (cloFrom X.env.cells scope.names []) s₄.heap.objs.size code bi X.env))),
            toks := s₄.toks + 1 + 1 + 1,
            heap := h'.push { cls := .type "generator", data := .fields #[.int s₄.gens.size 0, .str "<genexpr>" (s₄.toks + 1), .str (X.env.qual ++ "<genexpr>") (s₄.toks + 1 + 1)] } }) X.xe { s2 with heap := h3, toks := tk } := by
    intro code h3 tk ps' hx hsz hP3 hmore ht3
    obtain ⟨bm, ob, e1, e2, e3, e4, e5, e6, e7, e8⟩ := TB.bm
    obtain ⟨more, em⟩ := hmore
    have keep3 : ∀ b u, b ≠ P → s2.heap.get? b = some u → h3.get? b = some u := fun b u hb e => hx b u hb e
    refine wpAny_builtinsFor (m := X.mg) (by rw [I2.ok.glob]; exact (I2.mod.glob.keeps I2.bk).extBut hx TB.gP) e1 e2 (keep3 _ _ e4 (I2.bk _ _ e5)) e6 e7 e8 ?_
    intro h' hn' hs'
    have I3 := inv_tab (more := more) (h' := h3) (g' := s2.gens) (d' := s2.drawn) (t' := tk) I2 hP keep3 (by rw [← em]; exact hP3) I2.bare
    generalize hH3 : upd H2 P (.tbl (ps ++ more)) = H3 at I3
    have tb : Tabbed P H2 H3 := by
      subst hH3
      exact ⟨⟨ps ++ more, upd_same, by rw [← em]; exact ht3⟩, fun b hb => upd_ne hb⟩
    have f3 : ∀ b ∈ fp, FpOk X pins H3 b ∧ b < ({ s2 with heap := h3, toks := tk } : Shared).heap.objs.size := fun b hb =>
      ⟨⟨by rw [tb.2 b (nP b hb)]; exact (f2 b hb).1, (f2 b hb).2⟩, Nat.lt_of_lt_of_le (sz b hb) hsz⟩
    generalize hs3 : ({ s2 with heap := h3, toks := tk } : Shared) = s3 at I3 f3 hn' hs' ⊢
    have eh3 : s3.heap = h3 := by rw [← hs3]
    have hsz' : h'.objs.size = s3.heap.objs.size + 1 := by rw [hs'.1, Heap.size_push]
    have keep' : ∀ b o, s3.heap.get? b = some o → h'.get? b = some o := fun b o e => hs'.extBut b o (Nat.ne_of_lt (Heap.lt_size e)) (Heap.get?_push_of_some _ e)
    generalize hgo : ({ cls := .type "generator", data := .fields #[.int s3.gens.size 0, .str "<genexpr>" (s3.toks + 1), .str (X.env.qual ++ "<genexpr>") (s3.toks + 1 + 1)] } : Obj) = go
    have isG : ∀ h : Heap, h.get? h'.objs.size = some go → h.IsGen h'.objs.size s3.gens.size := fun h e => ⟨go, _, _, e, by rw [← hgo], by rw [← hgo], by rw [← hgo]⟩
    have got : (h'.push go).get? h'.objs.size = some go := Heap.get?_push_size _ (by rw [← hgo]; rfl)
    have keep5 : ∀ b o, s3.heap.get? b = some o → (h'.push go).get? b = some o := fun b o e => Heap.get?_push_of_some _ (keep' b o e)
    have st5 : tn 0 (h'.push go) := T.keep _ _ _ st2 fun b hb o e => keep5 b o (by rw [eh3]; exact keep3 b o (nP b hb) e)
    refine hQ h'.objs.size s3.gens.size _ _ J H2 H3 q tb (I3.nolimit.keeps keep5) (isG _ got) (Array.getElem?_push_size ..) fun stop Q W turn ⟨m0, w0⟩ => ?_
    refine ⟨m0 + 1, rfl, ?_⟩
    have I5 := gen_start (scope := scope) (own := own) (fp := fp) (code := code) (A := gAr X (gCe X scope (cloFrom X.env.cells scope.names []) s3.heap.objs.size code)) (pn := [(h'.objs.size, go)]) (h5 := h'.push go)
      (g' := (s3.gens.push (.fresh (.compStart (.GeneratorExp elt [⟨tg, iter, ifs, 0⟩] scope gpos) 0 (.ref it) .none (genEnv scope (cloFrom X.env.cells scope.names []) s3.heap.objs.size code builtinsNs X.env)))).setIfInBounds s3.gens.size .running) (t' := s3.toks + 1 + 1 + 1) (d' := s3.drawn) I3 ok hcell hN f3
      hr.hd (by show Option.map _ X.A.frames = _; rw [I3.ok.frames]; rfl) keep5 ((hn').keeps fun b o e => Heap.get?_push_of_some _ e)
      (allBare_setGen (s := { s3 with gens := s3.gens.push (.fresh (.compStart (.GeneratorExp elt [⟨tg, iter, ifs, 0⟩] scope gpos) 0 (.ref it) .none (genEnv scope (cloFrom X.env.cells scope.names []) s3.heap.objs.size code builtinsNs X.env))) }) (I3.bare.push rfl) rfl)
      (fun p hp => by
        rw [List.mem_singleton.mp hp]
        refine ⟨got, by show s3.heap.objs.size < h'.objs.size; omega, fun v z => by rw [← hgo] at z; cases z⟩)
    refine seg_gs (fun A Q E hq => T.self A 0 _ Q E st5 hq) ?_
    exact seg_gx (go := go) I3 hc f3 T hco isG (fun b hb z => by
        have h9 : (h'.objs.size : Nat) < s3.heap.objs.size := by rw [show (h'.objs.size : Nat) = b from z]; exact (f3 b hb).2
        omega) (hg _ _ _ _ _ _ _) (ht _ _ _ _ _ _ _) (he _ _ _ _ _ _ _) turn m0 (m0 + 1) 0 _ _ H3 (Nat.lt_succ_self _) I5 st5 (fun b hb => (f3 b hb).1.1) w0
  cases hf : codeAmong gpos ps.toList with
  | none =>
    refine wpAny_genexprCodeX hcode (cd.code hPs htr) (cd.tab hPs) hf fun c' h' tk hx hge hlt hco' _ htab' _ => ?_
    obtain ⟨o1, vs, f1, tf, fl, tg', inF, tx, tt', op, _, _, _, _, _, _, _, _, _, htr', _⟩ := hco'
    exact cont _ h' tk _ hx (Nat.le_trans hge (Nat.le_of_lt hlt)) htab'.2 ⟨_, rfl⟩ htr'
  | some cv =>
    refine wpAny_genexprCode_hit hcode (cd.code hPs htr) hf ?_
    exact cont cv s2.heap s2.toks ps (Heap.ExtBut.refl _ _) (Nat.le_refl _) hPs ⟨#[], by simp⟩ htr
end
end PyI

/-! PyG5: the calls any(.. for ..), all(.. for ..); their plain reading. -/
namespace PyI
open PySem PySem.Spec PyProof.Rows L2 GenW GxR

def tGx (stop : Bool) (P : Addr) (wi : TI) (g : TG) (tt : TT) (te : TE) (vs : List Nat) : TE := fun σ H Q => wi σ H fun J H1 => TabG H1 P ∧ ∀ H2, Tabbed P H1 H2 → ∃ W : Nat → Nat → Hp → Prop, (∃ m, W 0 m H2) ∧ GTurns J g tt te vs σ stop (fun b H' => Q (.bl b) H') W
abbrev RRt (wi : TI) (g : TG) (tt : TT) (te : TE) (P : Addr) (vs : List Nat) (σ : L2.St) (Q : VK) : It → Hp → Prop := fun J H1 => ∀ H2, Tabbed P H1 H2 → ∃ W : Nat → Nat → Hp → Prop, (∃ m, W 0 m H2) ∧ GTurns J g tt te vs σ true (fun b H' => Q (.bl b) H') W
abbrev RRf (wi : TI) (g : TG) (tt : TT) (te : TE) (P : Addr) (vs : List Nat) (σ : L2.St) (Q : VK) : It → Hp → Prop := fun J H1 => ∀ H2, Tabbed P H1 H2 → ∃ W : Nat → Nat → Hp → Prop, (∃ m, W 0 m H2) ∧ GTurns J g tt te vs σ false (fun b H' => Q (.bl b) H') W
section
variable {X : Cx}
theorem pe_anyGx {c P : Addr} {elt tg iter : Expr} {ifs : List Expr} {scope : Scope} {own : List (Str × Nat)} {p gpos pos : Pos} {g : TG} {tt : TT} {te : TE} {wi : TI} {k : Nat}
    (hgl : Gl X "any") (hm : X.mg "any" = none)
    (hr : Room (k + 3) X.A) (hc : X.calm = true) (hN : X.N.Nodup) (TB : TabB X.base X.mg c P) (hcode : X.env.code = .ref c) (ok : BlkOk X.N X.env.scope scope own) (hco : scope.isCoroutine = false) (hcell : ∀ y ∈ scope.names, y.2 ≠ .cell)
    (hdot : scope.names.lookup (".0" : Str) = some NameKind.local) (hi : PI X tg iter wi)
    (hg : ∀ (s : Shared) (H : Hp) (C : Addr) (cl : List (Str × Addr)) (fp : List Addr) (code : Value) (pn : List (Addr × Obj)), PG (gblk X s H scope (gCe X scope cl C code) fp (gAr X (gCe X scope cl C code)) pn) tg g)
    (ht : ∀ (s : Shared) (H : Hp) (C : Addr) (cl : List (Str × Addr)) (fp : List Addr) (code : Value) (pn : List (Addr × Obj)), PTs (gblk X s H scope (gCe X scope cl C code) fp (gAr X (gCe X scope cl C code)) pn) ifs tt)
    (he : ∀ (s : Shared) (H : Hp) (C : Addr) (cl : List (Str × Addr)) (fp : List Addr) (code : Value) (pn : List (Addr × Obj)), PE (gblk X s H scope (gCe X scope cl C code) fp (gAr X (gCe X scope cl C code)) pn) elt te)
    (hs : ∀ v, genFold iter X.env v = pure v)
    (hst : starEach [.GeneratorExp elt [⟨tg, iter, ifs, 0⟩] scope gpos] X.env = (false, eval (.GeneratorExp elt [⟨tg, iter, ifs, 0⟩] scope gpos) X.env) :: starEach [] X.env := by rfl) :
    PE X (.Call (.Name "any" p) [.GeneratorExp elt [⟨tg, iter, ifs, 0⟩] scope gpos] [] pos) (tGx true P wi g tt te (own.map (·.2))) := by
  refine ⟨fun pins s σ H Q I h => ?_⟩
  refine wpAny_Call_Name_kw (ld_blt I hgl hm boot_any ?_)
  refine PyProof.Rows.callWith_builtin1 ?_ hst (by rfl)
  rw [hst]
  show wpAny _ _ (spliced ((false, eval (.GeneratorExp elt [⟨tg, iter, ifs, 0⟩] scope gpos) X.env) :: backTo pos (starEach [] X.env))) _ _ s
  refine Calls.spliced_cons (gx_made (own := own) (RR := RRt wi g tt te P (List.map (fun x : Str × Nat => x.2) own) σ Q) hr hc hN TB hcode ok hco hcell hdot hi hg ht he hs I h fun ga gn gs s5 J H1 H2 hR tb nol isg hgs hgo => ?_)
  obtain ⟨W, hW, turns⟩ := hR H2 tb
  obtain ⟨n, goes⟩ := hgo true _ W turns hW
  refine Calls.spliced_nil ?_
  refine call_function_tree F.kind_any F.plain_any F.entry_any (F.args_any1 _) ?_
  unfold Builtin.«any»
  refine wpAny_bind (m := oneArg "any" _) (wpAny_pure ?_)
  refine wpAny_bind (wpAny_pyIter_gen isg ?_)
  exact wpAny_pure ⟨plainId_quiet F.plain_any_loop _, drv_any hr.hd hr.depth (fun b H' s' I' hq => ⟨.bl b, H', I', rfl, hq⟩) n s5 gs nol isg hgs goes⟩
theorem pe_allGx {c P : Addr} {elt tg iter : Expr} {ifs : List Expr} {scope : Scope} {own : List (Str × Nat)} {p gpos pos : Pos} {g : TG} {tt : TT} {te : TE} {wi : TI} {k : Nat}
    (hgl : Gl X "all") (hm : X.mg "all" = none) (hb : bootBuiltins "all" = some (.builtin "all"))
    (hr : Room (k + 3) X.A) (hc : X.calm = true) (hN : X.N.Nodup) (TB : TabB X.base X.mg c P) (hcode : X.env.code = .ref c) (ok : BlkOk X.N X.env.scope scope own) (hco : scope.isCoroutine = false) (hcell : ∀ y ∈ scope.names, y.2 ≠ .cell)
    (hdot : scope.names.lookup (".0" : Str) = some NameKind.local) (hi : PI X tg iter wi)
    (hg : ∀ (s : Shared) (H : Hp) (C : Addr) (cl : List (Str × Addr)) (fp : List Addr) (code : Value) (pn : List (Addr × Obj)), PG (gblk X s H scope (gCe X scope cl C code) fp (gAr X (gCe X scope cl C code)) pn) tg g)
    (ht : ∀ (s : Shared) (H : Hp) (C : Addr) (cl : List (Str × Addr)) (fp : List Addr) (code : Value) (pn : List (Addr × Obj)), PTs (gblk X s H scope (gCe X scope cl C code) fp (gAr X (gCe X scope cl C code)) pn) ifs tt)
    (he : ∀ (s : Shared) (H : Hp) (C : Addr) (cl : List (Str × Addr)) (fp : List Addr) (code : Value) (pn : List (Addr × Obj)), PE (gblk X s H scope (gCe X scope cl C code) fp (gAr X (gCe X scope cl C code)) pn) elt te)
    (hs : ∀ v, genFold iter X.env v = pure v)
    (hst : starEach [.GeneratorExp elt [⟨tg, iter, ifs, 0⟩] scope gpos] X.env = (false, eval (.GeneratorExp elt [⟨tg, iter, ifs, 0⟩] scope gpos) X.env) :: starEach [] X.env := by rfl) :
    PE X (.Call (.Name "all" p) [.GeneratorExp elt [⟨tg, iter, ifs, 0⟩] scope gpos] [] pos) (tGx false P wi g tt te (own.map (·.2))) := by
  refine ⟨fun pins s σ H Q I h => ?_⟩
  refine wpAny_Call_Name_kw (ld_blt I hgl hm hb ?_)
  refine PyProof.Rows.callWith_builtin1 ?_ hst (by rfl)
  rw [hst]
  show wpAny _ _ (spliced ((false, eval (.GeneratorExp elt [⟨tg, iter, ifs, 0⟩] scope gpos) X.env) :: backTo pos (starEach [] X.env))) _ _ s
  refine Calls.spliced_cons (gx_made (own := own) (RR := RRf wi g tt te P (List.map (fun x : Str × Nat => x.2) own) σ Q) hr hc hN TB hcode ok hco hcell hdot hi hg ht he hs I h fun ga gn gs s5 J H1 H2 hR tb nol isg hgs hgo => ?_)
  obtain ⟨W, hW, turns⟩ := hR H2 tb
  obtain ⟨n, goes⟩ := hgo false _ W turns hW
  refine Calls.spliced_nil ?_
  refine call_function_tree F.kind_all F.plain_all F.entry_all (F.args_all1 _) ?_
  unfold Builtin.«all»
  refine wpAny_bind (m := oneArg "all" _) (wpAny_pure ?_)
  refine wpAny_bind (wpAny_pyIter_gen isg ?_)
  exact wpAny_pure ⟨plainId_quiet F.plain_all_loop _, drv_all hr.hd hr.depth (fun b H' s' I' hq => ⟨.bl b, H', I', rfl, hq⟩) n s5 gs nol isg hgs goes⟩
end

/-! ### the plain reading -/
def gxLoop (stop : Bool) (t : Tg) (tt : Tn) (te : Dn) (env0 : EnvP) (gd : Guard) : List PV → M Bool
  | [] => pure (!stop)
  | x :: xs => do
    let env ← setT t x env0
    let b ← tt env
    if b then do
      let y ← te env
      match y with
      | .bl c => if c = stop then pure stop else do
        chk gd
        gxLoop stop t tt te env0 gd xs
      | _ => M.fail
    else do
      chk gd
      gxLoop stop t tt te env0 gd xs
def cGx (stop : Bool) (wi : Wn) (t : Tg) (tt : Tn) (te : Dn) (own : List Nat) : Dn := fun env => do
  let p ← wi env
  let b ← noEx (gxLoop stop t tt te (wipeP env own) p.2 p.1)
  pure (.bl b)
section
variable {g : Gd} {W : XW}
theorem tGx_of {stop : Bool} {P : Addr} {wi : Wn} {t : Tg} {tt : Tn} {te : Dn} {vs : List Nat} (hP : P ∈ g.tabs) (ht : ∀ j ∈ t.slots, j ∈ vs) {σ : L2.St} {H : Hp} {Q : VK} (h : tI g W (cGx stop wi t tt te vs) σ H Q) :
    tGx stop P (tW g W wi) (tG g W0 t) (tT g W0 tt) (tI g W0 te) vs σ H Q := by
  obtain ⟨ρ, env, st, E, S, h⟩ := h
  refine ⟨ρ, env, st, E, S, (Post.bind h).mono fun p st1 ρ1 H1 x1 S1 h1 hg J wok => ⟨S1.tabs P hP, fun H2 tb => ?_⟩⟩
  obtain ⟨rs, stE, hres, hfin⟩ := (Post.bind h1).noEx
  obtain ⟨G, Y, wk, hG, hY⟩ := wok.ex
  have E1 := (E.ext S x1).wipe vs
  obtain ⟨xt, St⟩ := tabbed_ext S1 hP tb
  let Pv : Nat → Hp → Prop := fun i H2 => ∃ ρ2 st2, Ext ρ1 H1 ρ2 H2 ∧ Sim g ρ2 st2 H2 ∧ gdOk p.2 st2 = true ∧ EnvR g ρ2 H2 (L2.wipe σ vs) (wipeP env vs) ∧
    gxLoop stop t tt te (wipeP env vs) p.2 (p.1.drop i) st2 = .ok rs stE
  refine ⟨fun i m H => m = p.1.length - i ∧ i ≤ p.1.length ∧ Pv i H, ⟨p.1.length, by simp, Nat.zero_le _, ρ1, st1, xt, St, hg, E1.ext S1 xt, by rw [List.drop_zero]; exact hres⟩, ?_⟩
  rintro i m H2 ⟨rfl, hi, ρ2, st2, x2, S2, hg2, E2, hres2⟩
  have q := hG ρ2 st2 H2 x2 S2 hg2
  by_cases hlt : i < p.1.length
  · refine .inr ⟨wk.goes i H2 hlt q, Pv (i + 1), fun H' p' => ⟨p.1.length - (i + 1), by omega, rfl, hlt, p'⟩, fun x H3 y => ?_⟩
    obtain ⟨d, hd, x3, S3, hv⟩ := hY i H2 x H3 ρ2 st2 hlt x2 S2 hg2 (wk.yields i H2 x H3 hlt q y)
    have hdrop : p.1.drop i = d :: p.1.drop (i + 1) := by
      obtain ⟨hl, e⟩ := List.getElem?_eq_some_iff.mp hd
      rw [List.drop_eq_getElem_cons hl, e]
    rw [hdrop] at hres2
    obtain ⟨env1, st3, q1, hres3⟩ := bind_inv (show (setT t d (wipeP env vs) >>= _) st2 = _ from hres2)
    obtain rfl := setT_st t d _ env1 st2 st3 q1
    refine ⟨ρ2, wipeP env vs, st3, d, E2.ext S2 x3, S3, hv, Post.of_ok q1 fun ρ' H' _ _ e1 e2 σ' E' O' => ⟨(O'.wipe ht).trans wipe_wipe, ?_⟩⟩
    subst e1; subst e2
    obtain ⟨b, st4, q2, hres4⟩ := bind_inv hres3
    refine ⟨ρ', env1, st3, E', S3, Post.of_ok q2 fun ρ4 H4 x4 S4 => ?_⟩
    have x24 := x3.trans x4
    cases b with
    | false =>
      refine iteF ?_
      obtain ⟨_, st5, q3, hres5⟩ := bind_inv (show (chk p.2 >>= fun _ => gxLoop stop t tt te (wipeP env vs) p.2 (p.1.drop (i + 1))) st4 = .ok rs stE from hres4)
      unfold chk at q3
      split at q3
      · rename_i hg4
        cases q3
        exact ⟨ρ4, st4, x2.trans x24, S4, hg4, E2.ext S2 x24, hres5⟩
      · cases q3
    | true =>
      refine iteT ?_
      obtain ⟨z, st5, q3, hres5⟩ := bind_inv (show (te env1 >>= fun y => match y with
        | .bl c => if c = stop then pure stop else do chk p.2; gxLoop stop t tt te (wipeP env vs) p.2 (p.1.drop (i + 1))
        | _ => M.fail) st4 = .ok rs stE from hres4)
      refine ⟨ρ4, env1, st4, E'.ext S3 x4, S4, Post.of_ok q3 fun ρ5 H5 x5 S5 v5 hv5 => ?_⟩
      have x25 := x24.trans x5
      cases hv5 with
      | bl c =>
        refine ⟨c, rfl, fun hcs => ?_, fun hcs => ?_⟩
        · have hres5 : (if c = stop then (pure stop : M Bool) else do chk p.2; gxLoop stop t tt te (wipeP env vs) p.2 (p.1.drop (i + 1))) st5 = .ok rs stE := hres5
          rw [if_pos hcs] at hres5
          cases hres5
          exact hfin ρ5 H5 (x2.trans x25) S5 ρ5 H5 (Ext.refl _ _) S5 _ (.bl _)
        · have hres5 : (if c = stop then (pure stop : M Bool) else do chk p.2; gxLoop stop t tt te (wipeP env vs) p.2 (p.1.drop (i + 1))) st5 = .ok rs stE := hres5
          rw [if_neg hcs] at hres5
          obtain ⟨_, st6, q4, hres6⟩ := bind_inv hres5
          unfold chk at q4
          split at q4
          · rename_i hg5
            cases q4
            exact ⟨ρ5, st5, x2.trans x25, S5, hg5, E2.ext S2 x25, hres6⟩
          · cases q4
      | _ => cases hres5
  · have e : i = p.1.length := by omega
    subst e
    rw [List.drop_length] at hres2
    cases hres2
    exact .inl ⟨wk.stops H2 q, hfin ρ2 H2 x2 S2 ρ2 H2 (Ext.refl _ _) S2 _ (.bl _)⟩
end
end PyI

/-! PyG6: generator expressions of two clauses: the turns. -/
namespace PyI
open PySem PySem.Spec PyProof.Rows L2 GenW

theorem compTurn_gen2_in {elt t1 t2 it1 it2 : Expr} {ifs1 ifs2 : List Expr} {scope : Scope} {pos : Pos} (it acc : Value) (env : Env) :
    compTurn (.GeneratorExp elt [⟨t1, it1, ifs1, 0⟩, ⟨t2, it2, ifs2, 0⟩] scope pos) 1 it acc env = (do
      standAt it2.pos
      match ← pyNext it with
      | none => pure (.done .next)
      | some v =>
        letOwnedTupleGo t2 it v
        assign t2 env v
        let mut ok := true
        for c in ifs2 do
          if ok then ok ← isTrue c env (eval c env)
        if ok then
          (do let v ← eval elt env; standAt elt.pos; let _ ← yieldOut env v)
        again (.compLoop (.GeneratorExp elt [⟨t1, it1, ifs1, 0⟩, ⟨t2, it2, ifs2, 0⟩] scope pos) 1 it acc env)) := by rfl
theorem compTurn_gen2_out {elt t1 t2 it1 it2 : Expr} {ifs1 ifs2 : List Expr} {scope : Scope} {pos : Pos} (it acc : Value) (env : Env) :
    compTurn (.GeneratorExp elt [⟨t1, it1, ifs1, 0⟩, ⟨t2, it2, ifs2, 0⟩] scope pos) 0 it acc env = (do
      standAt it1.pos
      match ← pyNext it with
      | none => pure (.done .next)
      | some v =>
        letOwnedTupleGo t1 it v
        assign t1 env v
        let mut ok := true
        for c in ifs1 do
          if ok then ok ← isTrue c env (eval c env)
        if ok then
          let x ← eval it2 env
          standAt it2.pos
          let x ← foldedSetIterable it2 env x
          let _ ← runOwn (.compStart (.GeneratorExp elt [⟨t1, it1, ifs1, 0⟩, ⟨t2, it2, ifs2, 0⟩] scope pos) 1 (← holding [x] (pyIter x)) acc env) env
        again (.compLoop (.GeneratorExp elt [⟨t1, it1, ifs1, 0⟩, ⟨t2, it2, ifs2, 0⟩] scope pos) 0 it acc env)) := by rfl
theorem over_gx2 {A : Around} {elt tg iter : Expr} {ifs : List Expr} {rest : List Comprehension} {scope : Scope} {pos : Pos} {it acc : Value} {env : Env} :
    A.over (.compLoop (.GeneratorExp elt (⟨tg, iter, ifs, 0⟩ :: rest) scope pos) 0 it acc env) [] = A.deeper env := by
  first
    | rfl
    | (obtain ⟨hd, d, fr, gs, u⟩ := A; simp [Around.over, Around.deeper, marksOver, frameCount, unitsOf, envsOf, guardsOf, pushEnvs, pushGuards, Code.envs, Code.env?, Code.isFrame, Code.guards, Code.isGuard, Code.weight, Code.frames, Code.isCreation, Code.isCaller, Code.cUnits])
theorem over_gs2 {A : Around} {elt tg iter : Expr} {ifs : List Expr} {rest : List Comprehension} {scope : Scope} {pos : Pos} {it acc : Value} {env : Env} :
    A.over (.compStart (.GeneratorExp elt (⟨tg, iter, ifs, 0⟩ :: rest) scope pos) 0 it acc env) [] = A.deeper env := by
  first
    | rfl
    | (obtain ⟨hd, d, fr, gs, u⟩ := A; simp [Around.over, Around.deeper, marksOver, frameCount, unitsOf, envsOf, guardsOf, pushEnvs, pushGuards, Code.envs, Code.env?, Code.isFrame, Code.guards, Code.isGuard, Code.weight, Code.frames, Code.isCreation, Code.isCaller, Code.cUnits])
theorem over_in2 {A : Around} {elt tg iter : Expr} {ifs : List Expr} {rest : List Comprehension} {scope : Scope} {pos : Pos} {it it' acc : Value} {env : Env} {k : Result → Sem PySem.Fin} {l : List Value} {p : Pos} :
    A.over (.compLoop (.GeneratorExp elt (⟨tg, iter, ifs, 0⟩ :: rest) scope pos) 1 it' acc env) [.ret k none false l (.compLoop (.GeneratorExp elt (⟨tg, iter, ifs, 0⟩ :: rest) scope pos) 0 it acc env) p []] = A.deeper env := by
  first
    | rfl
    | (obtain ⟨hd, d, fr, gs, u⟩ := A; simp [Around.over, Around.deeper, marksOver, frameCount, unitsOf, envsOf, guardsOf, pushEnvs, pushGuards, Code.envs, Code.env?, Code.isFrame, Code.guards, Code.isGuard, Code.weight, Code.frames, Code.isCreation, Code.isCaller, Code.cUnits, Frame.marks, Frame.where_, markOver])
theorem over_ins2 {A : Around} {elt tg iter : Expr} {ifs : List Expr} {rest : List Comprehension} {scope : Scope} {pos : Pos} {it it' acc : Value} {env : Env} {k : Result → Sem PySem.Fin} {l : List Value} {p : Pos} :
    A.over (.compStart (.GeneratorExp elt (⟨tg, iter, ifs, 0⟩ :: rest) scope pos) 1 it' acc env) [.ret k none false l (.compLoop (.GeneratorExp elt (⟨tg, iter, ifs, 0⟩ :: rest) scope pos) 0 it acc env) p []] = A.deeper env := by
  first
    | rfl
    | (obtain ⟨hd, d, fr, gs, u⟩ := A; simp [Around.over, Around.deeper, marksOver, frameCount, unitsOf, envsOf, guardsOf, pushEnvs, pushGuards, Code.envs, Code.env?, Code.isFrame, Code.guards, Code.isGuard, Code.weight, Code.frames, Code.isCreation, Code.isCaller, Code.cUnits, Frame.marks, Frame.where_, markOver])

/-- the inner clause: Out where it ends -/
def GInner (J : It) (g : TG) (tt : TT) (te : TE) (vs : List Nat) (σ : L2.St) (stop : Bool) (Q : Bool → Hp → Prop) (W : Nat → Nat → Hp → Prop) (Out : Nat → Hp → Prop) : Prop :=
  ∀ i m H, W i m H → (J.stop i H ∧ Out m H) ∨ (J.go i H ∧ ∀ x H', J.yld i H x H' → g x (wipe σ vs) H' fun σ2 H2 => wipe σ2 vs = wipe σ vs ∧ tt σ2 H2 fun b H3 =>
    if b = true then te σ2 H3 fun y H4 => ∃ c, y = .bl c ∧ (c = stop → Q stop H4) ∧ (c ≠ stop → ∃ m', m' < m ∧ W (i + 1) m' H4) else ∃ m', m' < m ∧ W (i + 1) m' H3)
def GTurns2 (J : It) (g1 : TG) (tt1 : TT) (wi2 : TI) (g2 : TG) (tt2 : TT) (te : TE) (vs vs2 : List Nat) (σ : L2.St) (stop : Bool) (Q : Bool → Hp → Prop) (W : Nat → Nat → Hp → Prop) : Prop :=
  ∀ i m H, W i m H → (J.stop i H ∧ Q (!stop) H) ∨ (J.go i H ∧ ∀ x H', J.yld i H x H' → g1 x (wipe σ vs) H' fun σ2 H2 => wipe σ2 vs = wipe σ vs ∧ tt1 σ2 H2 fun b H3 =>
    if b = true then wi2 σ2 H3 fun J2 H4 => ∃ W2 : Nat → Nat → Hp → Prop, (∃ m2, m2 < m ∧ W2 0 m2 H4) ∧ GInner J2 g2 tt2 te vs2 σ2 stop Q W2 (fun m2 H' => ∃ m', m' < m2 ∧ W (i + 1) m' H') else ∃ m', m' < m ∧ W (i + 1) m' H3)

section
variable {X : Cx} {pins : List (Addr × Obj)} {σ : L2.St} {H3 : Hp} {s3 : Shared}
theorem seg_in2 {elt tg iter tg1 iter1 : Expr} {ifs ifs1 : List Expr} {scope : Scope} {vs vs2 : List Nat} {pos : Pos} {g : TG} {tt : TT} {te : TE} {J : It} {fp fp2 : List Addr} {it it1 ga : Addr} {gn : Nat} {go : Obj} {tn : Nat → Heap → Prop} {ce : Env} {B : Around} {stop : Bool} {Q : Bool → Hp → Prop} {W : Nat → Nat → Hp → Prop} {Out : Nat → Hp → Prop}
    {ps : List (Addr × Obj)} {σ8 : L2.St} {k : Result → Sem PySem.Fin} {l : List Value} {p : Pos}
    (I3 : Inv X pins σ H3 s3) (hc : X.calm = true) (f3 : ∀ b ∈ fp, FpOk X pins H3 b ∧ b < s3.heap.objs.size) (T : Turn X.prog X.w X.K tg J fp2 it tn) (hco : ce.scope.isCoroutine = false)
    (hgo : ∀ h : Heap, h.get? ga = some go → h.IsGen ga gn)
    (stat2 : ∀ b ∈ fp2, ∀ H : Hp, H b = none → FpOk (gblk X s3 H3 scope ce fp (B.deeper ce) [(ga, go)]) ps H b)
    (pg : PG (gblk X s3 H3 scope ce fp (B.deeper ce) [(ga, go)]) tg g) (pt : PTs (gblk X s3 H3 scope ce fp (B.deeper ce) [(ga, go)]) ifs tt) (pe : PE (gblk X s3 H3 scope ce fp (B.deeper ce) [(ga, go)]) elt te)
    (turn : GInner J g tt te vs2 σ8 stop Q W Out)
    (Mx : Nat) (hk : ∀ (m n : Nat) (s₀ s : Shared) (H : Hp), m < n → m ≤ Mx → Inv (gblk X s3 H3 scope ce fp (B.deeper ce) [(ga, go)]) ps (wipe σ8 vs2) H s → Out m H →
      Seg (model X.prog X.w) B (gEnd X pins σ stop Q) (gProto X pins σ stop Q ga gn) n s₀ (.compLoop (.GeneratorExp elt [⟨tg1, iter1, ifs1, 0⟩, ⟨tg, iter, ifs, 0⟩] scope pos) 0 (.ref it1) .none ce) (k (.ok .next)) [] s) :
    ∀ (m n i : Nat) (s₀ s : Shared) (H : Hp), m < n → m ≤ Mx → Inv (gblk X s3 H3 scope ce fp (B.deeper ce) [(ga, go)]) ps (wipe σ8 vs2) H s → tn i s.heap → (∀ b ∈ fp2, H b = none) → W i m H →
      Seg (model X.prog X.w) B (gEnd X pins σ stop Q) (gProto X pins σ stop Q ga gn) n s₀ (.compLoop (.GeneratorExp elt [⟨tg1, iter1, ifs1, 0⟩, ⟨tg, iter, ifs, 0⟩] scope pos) 1 (.ref it) .none ce)
        ((model X.prog X.w).den (.compLoop (.GeneratorExp elt [⟨tg1, iter1, ifs1, 0⟩, ⟨tg, iter, ifs, 0⟩] scope pos) 1 (.ref it) .none ce)) [.ret k none false l (.compLoop (.GeneratorExp elt [⟨tg1, iter1, ifs1, 0⟩, ⟨tg, iter, ifs, 0⟩] scope pos) 0 (.ref it1) .none ce) p []] s := by
  have isG : ∀ {ps : List (Addr × Obj)} {σ' : L2.St} {H' : Hp} {s' : Shared}, Inv (gblk X s3 H3 scope ce fp (B.deeper ce) [(ga, go)]) ps σ' H' s' → s'.heap.IsGen ga gn := fun {ps σ' H' s'} I' =>
    hgo _ (I'.pin (ga, go) (List.mem_append_left _ (List.mem_singleton.mpr rfl))).1
  have moved : ∀ {ps : List (Addr × Obj)} {σ' : L2.St} {H' : Hp} {s' s'' : Shared}, Inv (gblk X s3 H3 scope ce fp (B.deeper ce) [(ga, go)]) ps σ' H' s' → s''.os = s'.os → AllBare s''.gens → (∀ b o, s'.heap.get? b = some o → s''.heap.get? b = some o) →
      Inv (gblk X s3 H3 scope ce fp (B.deeper ce) [(ga, go)]) ps σ' H' s'' := fun {ps σ' H' s' s''} I' ho hb hk =>
    I'.call' (ch := []) ho (Un.kept hk) (I'.hok.kept hk) hb fun b z => by simp at z
  have done : ∀ {ps : List (Addr × Obj)} {σ' : L2.St} {H' : Hp} {s' : Shared} {P : Hp → Prop}, Inv (gblk X s3 H3 scope ce fp (B.deeper ce) [(ga, go)]) ps σ' H' s' → P H' → GDone X pins σ P s' := fun {ps σ' H' s' P} I' hP =>
    ⟨H', hP, fun s'' ho hb hk => by
      have J' := moved I' ho hb hk
      exact I3.call' (ch := fp) J'.os J'.base J'.hok J'.bare fun b hb => ⟨(f3 b hb).1.2.2.2.1, (f3 b hb).1.2.1, (f3 b hb).1.2.2.2.2.1, (f3 b hb).1.2.2.2.2.2⟩⟩
  intro m
  induction m using Nat.strongRecOn with
  | ind m ih =>
    intro n i s₀ s H hmn hmx I st nf w
    show Seg _ B _ _ n s₀ _ ((compTurn (.GeneratorExp elt [⟨tg1, iter1, ifs1, 0⟩, ⟨tg, iter, ifs, 0⟩] scope pos) 1 (.ref it) .none ce).onRaise (fun x => do noteFrame x ce; theTreesLotGoes x)) _ s
    rw [compTurn_gen2_in, Sem.onRaise_eq_wrap]
    refine seg_bind_wrap (wpAny_standAt ?_)
    rcases turn i m H w with ⟨hstop, hQ⟩ | ⟨hgoes, step⟩
    · refine seg_bind_wrap ?_
      rw [over_in2]
      refine thnF (T.done (gblk X s3 H3 scope ce fp (B.deeper ce) [(ga, go)]) rfl rfl rfl hc i ps s _ H (fun _ _ => False) I (fun b hb => stat2 b hb H (nf b hb)) st hstop) fun r s6 ⟨hr, I6⟩ => ?_
      subst hr
      exact seg_leaf (.ok .next) (hk m n s₀ s6 H hmn hmx I6 hQ)
    · refine seg_bind_wrap ?_
      rw [over_in2]
      refine thnF (T.item (gblk X s3 H3 scope ce fp (B.deeper ce) [(ga, go)]) rfl rfl rfl hc i ps s _ H (fun _ _ => False) I (fun b hb => stat2 b hb H (nf b hb)) st hgoes) fun r s6 ⟨u, hr, h6⟩ => ?_
      subst hr
      refine seg_bind_wrap ?_
      rw [over_in2]
      refine thnF h6 fun _ s7 ⟨x, H7, I7, r7, y7, st7, n7⟩ => ?_
      have I7' := I7.pinned (fun b hb => stat2 b hb H7 (n7 b hb)) (T.obj _ _ st7)
      refine seg_bind_wrap ?_
      rw [over_in2]
      refine thnF (pg.run _ s7 _ H7 x u _ I7' r7 (step x H7 y7)) fun _ s8 ⟨σ9, H8, I8, hw8, q8⟩ => ?_
      refine seg_bind_wrap ?_
      rw [over_in2]
      refine thnF (pt.run _ s8 σ9 H8 _ I8 q8) fun b s9 ⟨H9, I9, q9⟩ => ?_
      have fin : ∀ {s' : Shared} {H' : Hp} {n' : Nat} {s₀' : Shared}, m ≤ n' → Inv (gblk X s3 H3 scope ce fp (B.deeper ce) [(ga, go)]) (ps ++ pinsAt fp2 s7.heap) σ9 H' s' → (∃ m', m' < m ∧ W (i + 1) m' H') →
          Seg (model X.prog X.w) B (gEnd X pins σ stop Q) (gProto X pins σ stop Q ga gn) n' s₀' (.compLoop (.GeneratorExp elt [⟨tg1, iter1, ifs1, 0⟩, ⟨tg, iter, ifs, 0⟩] scope pos) 1 (.ref it) .none ce)
            ((model X.prog X.w).den (.compLoop (.GeneratorExp elt [⟨tg1, iter1, ifs1, 0⟩, ⟨tg, iter, ifs, 0⟩] scope pos) 1 (.ref it) .none ce)) [.ret k none false l (.compLoop (.GeneratorExp elt [⟨tg1, iter1, ifs1, 0⟩, ⟨tg, iter, ifs, 0⟩] scope pos) 0 (.ref it1) .none ce) p []] s' := fun {s' H' n' s₀'} hmn' I' nx => by
        obtain ⟨m', hm, w'⟩ := nx
        have pin' : ∀ b ∈ fp2, ∀ o, s7.heap.get? b = some o → s'.heap.get? b = some o ∧ H' b = none := fun b hb o e =>
          let z := I'.pin (b, o) (List.mem_append_right _ (List.mem_append_right _ (mem_pinsAt hb e)))
          ⟨z.1, z.2.1⟩
        have hl : (wipe σ8 vs2).length = σ9.length := by rw [← hw8, wipe_length]
        refine ih m' hm n' (i + 1) s₀' s' H' (by omega) (by omega) ((I'.unpinned (pins := ps)).weak hl (fun j v e => ?_)) (T.keep _ _ _ st7 fun b hb o e => (pin' b hb o e).1) (fun b hb => ?_) w'
        · rw [← hw8] at e
          exact (wipe_some e).1
        · obtain ⟨o, e, _⟩ := T.obj _ _ st7 b hb
          exact (pin' b hb o e).2
      cases b with
      | false =>
        simp only [Bool.false_eq_true, if_false] at q9 ⊢
        exact seg_again rfl (fin (by omega) I9 q9)
      | true =>
        simp only [if_true] at q9 ⊢
        have hy : ∀ v, yieldOut ce v = yieldValue v := fun v => by simp only [yieldOut, hco, Bool.false_eq_true, if_false]
        simp only [hy]
        rw [Sem.bind_eq_wrap', Sem.bind_eq_wrap', Sem.wrap_wrap, Sem.wrap_wrap]
        refine seg_wrap ?_
        rw [over_in2]
        refine thnF (pe.run _ s9 σ9 H9 _ I9 q9) fun z s10 ⟨yv, H10, I10, r10, c, ec, hq1, hq2⟩ => ?_
        subst ec
        obtain rfl : z = .bool c := r10
        obtain ⟨n, rfl⟩ : ∃ k, n = k + 1 := ⟨n - 1, by omega⟩
        refine seg_at (seg_yield rfl rfl rfl ⟨c, rfl, isG I10, I10.nolimit, I10.bare, fun e => done I10 (hq1 e), fun e s'' ho hb hk => ?_⟩)
        exact seg_again rfl (fin (by omega) (moved I10 ho hb hk) (hq2 e))
theorem seg_ins2 {elt tg iter tg1 iter1 : Expr} {ifs ifs1 : List Expr} {scope : Scope} {pos : Pos} {ce : Env} {M : Program} {w : World} {B : Around} {it : Addr} {R : GenEnd} {Y : Protocol} {n : Nat} {s₀ s : Shared} {fs : List Frame} (hself : ∀ (A : Around) (Q : Value → Shared → Prop) (E : Value → Shared → Prop), Q (.ref it) s → wpAny (model M w) A (pyIter (.ref it)) Q E s)
    (loop : Seg (model M w) B R Y n s₀ (.compLoop (.GeneratorExp elt [⟨tg1, iter1, ifs1, 0⟩, ⟨tg, iter, ifs, 0⟩] scope pos) 1 (.ref it) .none ce)
        ((model M w).den (.compLoop (.GeneratorExp elt [⟨tg1, iter1, ifs1, 0⟩, ⟨tg, iter, ifs, 0⟩] scope pos) 1 (.ref it) .none ce)) fs s) :
    Seg (model M w) B R Y n s₀ (.compStart (.GeneratorExp elt [⟨tg1, iter1, ifs1, 0⟩, ⟨tg, iter, ifs, 0⟩] scope pos) 1 (.ref it) .none ce)
        ((model M w).den (.compStart (.GeneratorExp elt [⟨tg1, iter1, ifs1, 0⟩, ⟨tg, iter, ifs, 0⟩] scope pos) 1 (.ref it) .none ce)) fs s := by
  show Seg _ B _ _ _ s₀ _ ((compStart (.GeneratorExp elt [⟨tg1, iter1, ifs1, 0⟩, ⟨tg, iter, ifs, 0⟩] scope pos) 1 (.ref it) .none ce).onRaise (fun x => do noteFrame x ce; standAt theWindowsPlace)) fs s
  unfold compStart
  rw [Sem.onRaise_eq_wrap]
  show Seg _ B _ _ _ s₀ _ ((ask >>= _).wrap _ _ _ _) fs s
  refine seg_bind_wrap (wpAny_askSetting ?_)
  split
  · exact seg_again rfl loop
  · first
      | exact seg_bind_wrap (wpAny_rule (seg_bind_wrap (wpAny_standAt (seg_bind_wrap (hself _ _ _ (seg_again rfl loop))))))
      | (refine seg_bind_wrap (wpAny_rule ?_); show Seg _ B _ _ _ s₀ _ ((standAt iter.pos >>= _).wrap _ _ _ _) fs s; exact seg_bind_wrap (wpAny_standAt (seg_bind_wrap (hself _ _ _ (seg_again rfl loop)))))
theorem seg_gs2 {elt tg iter tg2 iter2 : Expr} {ifs ifs2 : List Expr} {scope : Scope} {pos : Pos} {ce : Env} {B : Around} {it : Addr} {R : GenEnd} {Y : Protocol} {n : Nat} {s₀ s : Shared} (hself : ∀ (A : Around) (Q : Value → Shared → Prop) (E : Value → Shared → Prop), Q (.ref it) s → wpAny (model X.prog X.w) A (pyIter (.ref it)) Q E s)
    (loop : Seg (model X.prog X.w) B R Y n s₀ (.compLoop (.GeneratorExp elt [⟨tg, iter, ifs, 0⟩, ⟨tg2, iter2, ifs2, 0⟩] scope pos) 0 (.ref it) .none ce)
        ((model X.prog X.w).den (.compLoop (.GeneratorExp elt [⟨tg, iter, ifs, 0⟩, ⟨tg2, iter2, ifs2, 0⟩] scope pos) 0 (.ref it) .none ce)) [] s) :
    Seg (model X.prog X.w) B R Y n s₀ (.compStart (.GeneratorExp elt [⟨tg, iter, ifs, 0⟩, ⟨tg2, iter2, ifs2, 0⟩] scope pos) 0 (.ref it) .none ce)
        ((model X.prog X.w).den (.compStart (.GeneratorExp elt [⟨tg, iter, ifs, 0⟩, ⟨tg2, iter2, ifs2, 0⟩] scope pos) 0 (.ref it) .none ce)) [] s := by
  show Seg _ B _ _ _ s₀ _ ((compStart (.GeneratorExp elt [⟨tg, iter, ifs, 0⟩, ⟨tg2, iter2, ifs2, 0⟩] scope pos) 0 (.ref it) .none ce).onRaise (leaving ce)) [] s
  unfold compStart
  rw [Sem.onRaise_eq_wrap]
  show Seg _ B _ _ _ s₀ _ ((ask >>= _).wrap _ _ _ _) [] s
  refine seg_bind_wrap (wpAny_askSetting ?_)
  split
  · exact seg_again rfl loop
  · first
      | exact seg_bind_wrap (wpAny_rule (seg_bind_wrap (wpAny_standAt (seg_bind_wrap (hself _ _ _ (seg_again rfl loop))))))
      | (refine seg_bind_wrap (wpAny_rule ?_); show Seg _ B _ _ _ s₀ _ ((standAt iter.pos >>= _).wrap _ _ _ _) [] s; exact seg_bind_wrap (wpAny_standAt (seg_bind_wrap (hself _ _ _ (seg_again rfl loop)))))
theorem seg_gx2 {elt tg iter tg2 iter2 : Expr} {ifs ifs2 : List Expr} {scope : Scope} {own : List (Str × Nat)} {vs2 : List Nat} {pos : Pos} {g g2 : TG} {tt tt2 : TT} {te : TE} {wi2 : TI} {J : It} {fp : List Addr} {it ga : Addr} {gn : Nat} {go : Obj} {tn : Nat → Heap → Prop} {ce : Env} {B : Around} {stop : Bool} {Q : Bool → Hp → Prop} {W : Nat → Nat → Hp → Prop}
    (I3 : Inv X pins σ H3 s3) (hc : X.calm = true) (f3 : ∀ b ∈ fp, FpOk X pins H3 b ∧ b < s3.heap.objs.size) (T : Turn X.prog X.w X.K tg J fp it tn) (hco : ce.scope.isCoroutine = false)
    (hgo : ∀ h : Heap, h.get? ga = some go → h.IsGen ga gn) (hgf : ∀ b ∈ fp, ga ≠ b) (hv2 : ∀ j ∈ vs2, j ∈ own.map (·.2))
    (pg : PG (gblk X s3 H3 scope ce fp (B.deeper ce) [(ga, go)]) tg g) (pt : PTs (gblk X s3 H3 scope ce fp (B.deeper ce) [(ga, go)]) ifs tt) (pi2 : PI (gblk X s3 H3 scope ce fp (B.deeper ce) [(ga, go)]) tg2 iter2 wi2)
    (pg2 : PG (gblk X s3 H3 scope ce fp (B.deeper ce) [(ga, go)]) tg2 g2) (pt2 : PTs (gblk X s3 H3 scope ce fp (B.deeper ce) [(ga, go)]) ifs2 tt2) (pe : PE (gblk X s3 H3 scope ce fp (B.deeper ce) [(ga, go)]) elt te)
    (hs2 : ∀ x, foldedSetIterable iter2 ce x = pure x)
    (turn : GTurns2 J g tt wi2 g2 tt2 te (own.map (·.2)) vs2 σ stop Q W) :
    ∀ (m n i : Nat) (s₀ s : Shared) (H : Hp), m < n → Inv (gblk X s3 H3 scope ce fp (B.deeper ce) [(ga, go)]) [] (wipe σ (own.map (·.2))) H s → tn i s.heap → (∀ b ∈ fp, H b = none) → W i m H →
      Seg (model X.prog X.w) B (gEnd X pins σ stop Q) (gProto X pins σ stop Q ga gn) n s₀ (.compLoop (.GeneratorExp elt [⟨tg, iter, ifs, 0⟩, ⟨tg2, iter2, ifs2, 0⟩] scope pos) 0 (.ref it) .none ce)
        ((model X.prog X.w).den (.compLoop (.GeneratorExp elt [⟨tg, iter, ifs, 0⟩, ⟨tg2, iter2, ifs2, 0⟩] scope pos) 0 (.ref it) .none ce)) [] s := by
  have stat : ∀ {σ' : L2.St} {H' : Hp} {s' : Shared}, Inv (gblk X s3 H3 scope ce fp (B.deeper ce) [(ga, go)]) [] σ' H' s' → (∀ b ∈ fp, H' b = none) → ∀ b ∈ fp, FpOk (gblk X s3 H3 scope ce fp (B.deeper ce) [(ga, go)]) [] H' b := fun {σ' H' s'} I' hn b hb =>
    ⟨hn b hb, (I'.ok.exf b hb).1, I'.ok.exfs b hb, .inl hb, fun x c e => (I'.ok.exf b hb).2 x c e, fun p hp => by
      have hp : p ∈ [(ga, go)] ++ ([] : List (Addr × Obj)) := hp
      rw [List.append_nil] at hp
      rw [List.mem_singleton.mp hp]
      exact hgf b hb⟩
  have moved : ∀ {ps : List (Addr × Obj)} {σ' : L2.St} {H' : Hp} {s' s'' : Shared}, Inv (gblk X s3 H3 scope ce fp (B.deeper ce) [(ga, go)]) ps σ' H' s' → s''.os = s'.os → AllBare s''.gens → (∀ b o, s'.heap.get? b = some o → s''.heap.get? b = some o) →
      Inv (gblk X s3 H3 scope ce fp (B.deeper ce) [(ga, go)]) ps σ' H' s'' := fun {ps σ' H' s' s''} I' ho hb hk =>
    I'.call' (ch := []) ho (Un.kept hk) (I'.hok.kept hk) hb fun b z => by simp at z
  have done : ∀ {ps : List (Addr × Obj)} {σ' : L2.St} {H' : Hp} {s' : Shared} {P : Hp → Prop}, Inv (gblk X s3 H3 scope ce fp (B.deeper ce) [(ga, go)]) ps σ' H' s' → P H' → GDone X pins σ P s' := fun {ps σ' H' s' P} I' hP =>
    ⟨H', hP, fun s'' ho hb hk => by
      have J' := moved I' ho hb hk
      exact I3.call' (ch := fp) J'.os J'.base J'.hok J'.bare fun b hb => ⟨(f3 b hb).1.2.2.2.1, (f3 b hb).1.2.1, (f3 b hb).1.2.2.2.2.1, (f3 b hb).1.2.2.2.2.2⟩⟩
  intro m
  induction m using Nat.strongRecOn with
  | ind m ih =>
    intro n i s₀ s H hmn I st nf w
    show Seg _ B _ _ n s₀ _ ((compTurn (.GeneratorExp elt [⟨tg, iter, ifs, 0⟩, ⟨tg2, iter2, ifs2, 0⟩] scope pos) 0 (.ref it) .none ce).onRaise (leaving ce)) [] s
    rw [compTurn_gen2_out, Sem.onRaise_eq_wrap]
    refine seg_bind_wrap (wpAny_standAt ?_)
    rcases turn i m H w with ⟨hstop, hQ⟩ | ⟨hgoes, step⟩
    · refine seg_bind_wrap ?_
      rw [over_gx2]
      refine thnF (T.done (gblk X s3 H3 scope ce fp (B.deeper ce) [(ga, go)]) rfl rfl rfl hc i [] s _ H (fun _ _ => False) I (stat I nf) st hstop) fun r s6 ⟨hr, I6⟩ => ?_
      subst hr
      exact seg_end (.ok .next) ⟨rfl, I6.bare, done I6 hQ⟩
    · refine seg_bind_wrap ?_
      rw [over_gx2]
      refine thnF (T.item (gblk X s3 H3 scope ce fp (B.deeper ce) [(ga, go)]) rfl rfl rfl hc i [] s _ H (fun _ _ => False) I (stat I nf) st hgoes) fun r s6 ⟨u, hr, h6⟩ => ?_
      subst hr
      refine seg_bind_wrap ?_
      rw [over_gx2]
      refine thnF h6 fun _ s7 ⟨x, H7, I7, r7, y7, st7, n7⟩ => ?_
      have I7' := I7.pinned (stat I7 n7) (T.obj _ _ st7)
      refine seg_bind_wrap ?_
      rw [over_gx2]
      refine thnF (pg.run _ s7 _ H7 x u _ I7' r7 (step x H7 y7)) fun _ s8 ⟨σ8, H8, I8, hw8, q8⟩ => ?_
      refine seg_bind_wrap ?_
      rw [over_gx2]
      refine thnF (pt.run _ s8 σ8 H8 _ I8 q8) fun b s9 ⟨H9, I9, q9⟩ => ?_
      have fin : ∀ {s' : Shared} {H' : Hp} {n' : Nat} {s₀' : Shared} {σ9 : L2.St}, σ9.length = σ8.length → (∀ j v, (wipe σ (own.map (·.2)))[j]? = some (some v) → σ9[j]? = some (some v)) → Inv (gblk X s3 H3 scope ce fp (B.deeper ce) [(ga, go)]) ([] ++ pinsAt fp s7.heap) σ9 H' s' → (∃ m', m' < m ∧ m' < n' ∧ W (i + 1) m' H') →
          Seg (model X.prog X.w) B (gEnd X pins σ stop Q) (gProto X pins σ stop Q ga gn) n' s₀' (.compLoop (.GeneratorExp elt [⟨tg, iter, ifs, 0⟩, ⟨tg2, iter2, ifs2, 0⟩] scope pos) 0 (.ref it) .none ce)
            ((model X.prog X.w).den (.compLoop (.GeneratorExp elt [⟨tg, iter, ifs, 0⟩, ⟨tg2, iter2, ifs2, 0⟩] scope pos) 0 (.ref it) .none ce)) [] s' := fun {s' H' n' s₀' σ9} hl9 hv9 I' nx => by
        obtain ⟨m', hm, hmn', w'⟩ := nx
        have pin' : ∀ b ∈ fp, ∀ o, s7.heap.get? b = some o → s'.heap.get? b = some o ∧ H' b = none := fun b hb o e =>
          let z := I'.pin (b, o) (List.mem_append_right _ (List.mem_append_right _ (mem_pinsAt hb e)))
          ⟨z.1, z.2.1⟩
        have hl : (wipe σ (own.map (·.2))).length = σ9.length := by rw [hl9, ← hw8, wipe_length]
        refine ih m' hm n' (i + 1) s₀' s' H' hmn' ((I'.unpinned (pins := [])).weak hl hv9) (T.keep _ _ _ st7 fun b hb o e => (pin' b hb o e).1) (fun b hb => ?_) w'
        obtain ⟨o, e, _⟩ := T.obj _ _ st7 b hb
        exact (pin' b hb o e).2
      cases b with
      | false =>
        simp only [Bool.false_eq_true, if_false] at q9 ⊢
        obtain ⟨m', hm, w'⟩ := q9
        refine seg_again rfl (fin rfl (fun j v e => ?_) I9 ⟨m', hm, by omega, w'⟩)
        rw [← hw8] at e
        exact (wipe_some e).1
      | true =>
        simp only [if_true] at q9 ⊢
        simp only [hs2]
        refine seg_bind_wrap ?_
        rw [over_gx2]
        refine thnF (pi2.run _ s9 σ8 H9 _ I9 q9) fun xv s10 hx => ?_
        refine seg_bind_wrap (wpAny_standAt ?_)
        refine seg_bind_wrap (wpAny_pure ?_)
        refine seg_bind_wrap (wpAny_holding ?_)
        rw [over_gx2]
        refine thnF hx fun itv s11 h11 => ?_
        obtain ⟨it2, fp2, tn2, J2, H11, e, I11, T2, st11, f11, W2, ⟨m2, hm2, w2⟩, turn2⟩ := h11
        subst e
        refine seg_call fun p => ?_
        refine seg_ins2 (fun A Q E hq => T2.self A 0 _ Q E st11 hq) ?_
        refine seg_in2 (vs := own.map (·.2)) I3 hc f3 T2 hco hgo (fun b hb H hn => ⟨hn, (f11 b hb).2⟩) pg2 pt2 pe turn2 m2 (fun m3 n3 s₃ s12 H12 hmn3 hm3 I12 hout => ?_) m2 n 0 _ s11 H11 (by omega) (Nat.le_refl _) (I11.weak (wipe_length ..) fun j v e => (wipe_some e).1) st11 (fun b hb => (f11 b hb).1) w2
        obtain ⟨m', hm, w'⟩ := hout
        refine seg_again rfl (fin (wipe_length ..) (fun j v e => ?_) I12 ⟨m', by omega, by omega, w'⟩)
        rw [← hw8] at e
        obtain ⟨e1, e2⟩ := wipe_some e
        rw [wipe_out fun z => e2 (hv2 j z)]
        exact e1
end
end PyI

/-! PyG7: generator expressions of two clauses: made, pulled by any or all; the plain reading. -/
namespace PyI
open PySem PySem.Spec PyProof.Rows L2 GenW GxR
theorem eval_gen2 (elt target iter t2 it2 : Expr) (ifs ifs2 : List Expr) (scope : Scope) (pos : Pos) (env : Env) (hco : scope.isCoroutine = false) :
    eval (.GeneratorExp elt [⟨target, iter, ifs, 0⟩, ⟨t2, it2, ifs2, 0⟩] scope pos) env = (do
      let x0 ← eval iter env; standAt iter.pos; let x1 ← genFold iter env x0; let it ← holding [x1] (pyIter x1); enterFrame; let cl ← closureFor scope env
      let code ← genexprCode env pos (env.qual ++ "<genexpr>") scope; let bi ← builtinsFor env.globals env.builtins
      let cenv ← newFunctionEnv scope env.globals cl [(".0", it)] (env.qual ++ "<genexpr>.") none code none bi; newGenerator (.compStart (.GeneratorExp elt [⟨target, iter, ifs, 0⟩, ⟨t2, it2, ifs2, 0⟩] scope pos) 0 it .none cenv) "<genexpr>" (env.qual ++ "<genexpr>")) := by
  rw [arm_eval_GeneratorExp]
  simp only [hco, Bool.false_eq_true, if_false]
  cases iter <;> rfl
section
variable {M : Model} {A : Around} {E : Value → Shared → Prop} {s : Shared}
theorem make_gen2 {env : Env} {elt target iter t2 it2 : Expr} {ifs ifs2 : List Expr} {scope : Scope} {cl : List (Str × Addr)} {pos : Pos} {Q : Value → Shared → Prop}
    (hco : scope.isCoroutine = false) (hclos : closureFor scope env = pure cl) (hcell : ∀ y ∈ scope.names, y.2 ≠ .cell) (hdot : scope.names.lookup (".0" : Str) = some NameKind.local) (hkind : scope.kind = .function) (hroom : A.depth < recursionLimit)
    (h : wpAny M A (eval iter env) (fun xv s₁ => wpAny M A (pyIter xv) (fun it s₂ => s₂.heap.NoLimit ∧ wpAny M A (genexprCode env pos (env.qual ++ "<genexpr>") scope) (fun code s₃ => wpAny M A (builtinsFor env.globals env.builtins) (fun bi s₄ =>
        ∀ h', h'.Ns s₄.heap.objs.size (fun y => if y = ".0" then some it else none) → Heap.SameBut s₄.heap.objs.size (s₄.heap.push { cls := .type "frame", data := .dict #[] }) h' → Q (.ref h'.objs.size) { s₄ with
            gens := s₄.gens.push (.fresh (.compStart (.GeneratorExp elt [⟨target, iter, ifs, 0⟩, ⟨t2, it2, ifs2, 0⟩] scope pos) 0 it .none (genEnv scope cl s₄.heap.objs.size code bi env))), toks := s₄.toks + 1 + 1 + 1,
            heap := h'.push { cls := .type "generator", data := .fields #[.int s₄.gens.size 0, .str "<genexpr>" (s₄.toks + 1), .str (env.qual ++ "<genexpr>") (s₄.toks + 1 + 1)] } }) E s₃) E s₂) E s₁) E s)
    (hs : ∀ x, genFold iter env x = pure x) : wpAny M A (eval (.GeneratorExp elt [⟨target, iter, ifs, 0⟩, ⟨t2, it2, ifs2, 0⟩] scope pos) env) Q E s := by
  rw [eval_gen2 _ _ _ _ _ _ _ _ _ _ hco, hclos]
  refine wpAny_bind (wpAny_mono h (fun xv s₁ k1 => wpAny_bind (wpAny_standAt (wpAny_bind (wpAny_of_eq (hs xv) (wpAny_bind (wpAny_holding (wpAny_mono k1 (fun it s₂ k2 => ?_) fun _ _ e => e))))))) fun _ _ e => e)
  refine wpAny_bind (wpAny_enterFrame k2.1 hroom (wpAny_bind (wpAny_pure ?_)))
  refine wpAny_bind (wpAny_mono k2.2 (fun code s₃ k3 => wpAny_bind (wpAny_mono k3 (fun bi s₄ k4 => ?_) fun _ _ e => e)) fun _ _ e => e)
  have hb : ∀ y ∈ ([((".0" : Str), it)] : List (Str × Value)), scope.names.lookup y.1 = some NameKind.local := fun y hy => by
    cases List.mem_singleton.mp hy
    exact hdot
  refine wpAny_bind (wpAny_newFunctionEnv hcell hb (fun h' hn' hs' => ?_) hkind)
  have e : (fun y : Str => ([((".0" : Str), it)] : List (Str × Value)).reverse.lookup y) = fun y : Str => if y = (".0" : Str) then some it else none := funext fun y => by
    by_cases hy : y = ".0"
    · subst hy; simp
    · simp [List.lookup, show (y == (".0" : Str)) = false by simpa using hy, hy]
  rw [e] at hn'
  simp only [newGenerator, newFields]
  exact wpAny_bind (wpAny_newGen (wpAny_bind (wpAny_mkText (wpAny_bind (wpAny_mkText (wpAny_newObj_type (k4 h' hn' hs') (by size_fits)))))))
end
section
variable {X : Cx} {pins : List (Addr × Obj)} {σ : L2.St} {H : Hp} {s : Shared}
theorem gx_made2 {c P : Addr} {elt tg iter tg2 iter2 : Expr} {ifs ifs2 : List Expr} {scope : Scope} {own : List (Str × Nat)} {gpos : Pos} {vs2 : List Nat} {g g2 : TG} {tt tt2 : TT} {te : TE} {wi wi2 : TI} {k : Nat} {Q' : Value → Shared → Prop} {RR : It → Hp → Prop}
    (hr : Room (k + 3) X.A) (hc : X.calm = true) (hN : X.N.Nodup) (TB : TabB X.base X.mg c P) (hcode : X.env.code = .ref c) (ok : BlkOk X.N X.env.scope scope own) (hco : scope.isCoroutine = false) (hcell : ∀ y ∈ scope.names, y.2 ≠ .cell)
    (hdot : scope.names.lookup (".0" : Str) = some NameKind.local) (hi : PI X tg iter wi)
    (hg : ∀ (s : Shared) (H : Hp) (C : Addr) (cl : List (Str × Addr)) (fp : List Addr) (code : Value) (pn : List (Addr × Obj)), PG (gblk X s H scope (gCe X scope cl C code) fp (gAr X (gCe X scope cl C code)) pn) tg g)
    (ht : ∀ (s : Shared) (H : Hp) (C : Addr) (cl : List (Str × Addr)) (fp : List Addr) (code : Value) (pn : List (Addr × Obj)), PTs (gblk X s H scope (gCe X scope cl C code) fp (gAr X (gCe X scope cl C code)) pn) ifs tt)
    (he : ∀ (s : Shared) (H : Hp) (C : Addr) (cl : List (Str × Addr)) (fp : List Addr) (code : Value) (pn : List (Addr × Obj)), PE (gblk X s H scope (gCe X scope cl C code) fp (gAr X (gCe X scope cl C code)) pn) elt te)
    (hi2 : ∀ (s : Shared) (H : Hp) (C : Addr) (cl : List (Str × Addr)) (fp : List Addr) (code : Value) (pn : List (Addr × Obj)), PI (gblk X s H scope (gCe X scope cl C code) fp (gAr X (gCe X scope cl C code)) pn) tg2 iter2 wi2)
    (hg2 : ∀ (s : Shared) (H : Hp) (C : Addr) (cl : List (Str × Addr)) (fp : List Addr) (code : Value) (pn : List (Addr × Obj)), PG (gblk X s H scope (gCe X scope cl C code) fp (gAr X (gCe X scope cl C code)) pn) tg2 g2)
    (ht2 : ∀ (s : Shared) (H : Hp) (C : Addr) (cl : List (Str × Addr)) (fp : List Addr) (code : Value) (pn : List (Addr × Obj)), PTs (gblk X s H scope (gCe X scope cl C code) fp (gAr X (gCe X scope cl C code)) pn) ifs2 tt2) (hv2 : ∀ j ∈ vs2, j ∈ own.map (·.2)) (hs2 : ∀ (env : Env) x, foldedSetIterable iter2 env x = pure x)
    (hs : ∀ v, genFold iter X.env v = pure v) (I : Inv X pins σ H s) (h : wi σ H fun J H1 => TabG H1 P ∧ RR J H1)
    (hQ : ∀ (ga : Addr) (gn : Nat) (gs : GenState) (s5 : Shared) (J : It) (H1 H2 : Hp), RR J H1 → Tabbed P H1 H2 → s5.heap.NoLimit → s5.heap.IsGen ga gn → s5.gens[gn]? = some gs →
      (∀ (stop : Bool) (Q : Bool → Hp → Prop) (W : Nat → Nat → Hp → Prop), GTurns2 J g tt wi2 g2 tt2 te (own.map (·.2)) vs2 σ stop Q W → (∃ m, W 0 m H2) →
        ∃ n, gs.Goes (model X.prog X.w) X.A.in1.in1 (gEnd X pins σ stop Q) (gProto X pins σ stop Q ga gn) n (.send .none) (s5.setGen gn .running)) → Q' (.ref ga) s5) :
    wpAny (model X.prog X.w) X.A (eval (.GeneratorExp elt [⟨tg, iter, ifs, 0⟩, ⟨tg2, iter2, ifs2, 0⟩] scope gpos) X.env) Q' X.xe s := by
  have hfree : ∀ y ∈ scope.names, y.2 = .free → ∃ c, X.env.cells.lookup y.1 = some c := fun y hy e => by
    rcases ok.free y hy e with k | k
    · exact I.ok.has _ (.inl k)
    · exact I.ok.has _ (.inr k)
  refine make_gen2 hco (closure_ok hfree) hcell hdot ok.kind hr.depth ?_ hs
  refine thn (hi.run pins s σ H _ I h) fun xv s1 hx => thn hx fun itv s2 h2 => ?_
  obtain ⟨it, fp, tn, J, H2, e, I2, T, st2, f2, ⟨ps, hP, htr⟩, q⟩ := h2
  subst e
  refine ⟨I2.nolimit, ?_⟩
  have hPs : s2.heap.get? P = some { cls := .none, data := .fields ps } := I2.hok P _ hP
  have cd : PySem.W.CodeHd s2.heap c P := TB.code.keeps fun b u e => I2.bk b u e
  have sz : ∀ b ∈ fp, b < s2.heap.objs.size := fun b hb => by
    obtain ⟨o, e, _⟩ := T.obj _ _ st2 b hb
    exact Heap.lt_size e
  have nP : ∀ b ∈ fp, b ≠ P := fun b hb z => by
    have := (f2 b hb).1
    rw [z, hP] at this
    cases this
  have cont : ∀ (code : Value) (h3 : Heap) (tk : Nat) (ps' : Array Value), Heap.ExtBut P s2.heap h3 → s2.heap.objs.size ≤ h3.objs.size → h3.get? P = some { cls := .none, data := .fields ps' } → (∃ more, ps' = ps ++ more) → TriplesOk ps'.toList →
      wpAny (model X.prog X.w) X.A (builtinsFor X.env.globals X.env.builtins) (fun bi s₄ =>
        ∀ h', h'.Ns s₄.heap.objs.size (fun y => if y = ".0" then some (.ref it) else none) → Heap.SameBut s₄.heap.objs.size (s₄.heap.push { cls := .type "frame", data := .dict #[] }) h' →
          Q' (.ref h'.objs.size) { s₄ with
            gens := s₄.gens.push (.fresh (.compStart (.GeneratorExp elt [⟨tg, iter, ifs, 0⟩, ⟨tg2, iter2, ifs2, 0⟩] scope gpos) 0 (.ref it) .none (genEnv scope (cloFrom X.env.cells scope.names []) s₄.heap.objs.size code bi X.env))),
            toks := s₄.toks + 1 + 1 + 1,
            heap := h'.push { cls := .type "generator", data := .fields #[.int s₄.gens.size 0, .str "<genexpr>" (s₄.toks + 1), .str (X.env.qual ++ "<genexpr>") (s₄.toks + 1 + 1)] } }) X.xe { s2 with heap := h3, toks := tk } := by
    intro code h3 tk ps' hx hsz hP3 hmore ht3
    obtain ⟨bm, ob, e1, e2, e3, e4, e5, e6, e7, e8⟩ := TB.bm
    obtain ⟨more, em⟩ := hmore
    have keep3 : ∀ b u, b ≠ P → s2.heap.get? b = some u → h3.get? b = some u := fun b u hb e => hx b u hb e
    refine wpAny_builtinsFor (m := X.mg) (by rw [I2.ok.glob]; exact (I2.mod.glob.keeps I2.bk).extBut hx TB.gP) e1 e2 (keep3 _ _ e4 (I2.bk _ _ e5)) e6 e7 e8 ?_
    intro h' hn' hs'
    have I3 := inv_tab (more := more) (h' := h3) (g' := s2.gens) (d' := s2.drawn) (t' := tk) I2 hP keep3 (by rw [← em]; exact hP3) I2.bare
    generalize hH3 : upd H2 P (.tbl (ps ++ more)) = H3 at I3
    have tb : Tabbed P H2 H3 := by
      subst hH3
      exact ⟨⟨ps ++ more, upd_same, by rw [← em]; exact ht3⟩, fun b hb => upd_ne hb⟩
    have f3 : ∀ b ∈ fp, FpOk X pins H3 b ∧ b < ({ s2 with heap := h3, toks := tk } : Shared).heap.objs.size := fun b hb =>
      ⟨⟨by rw [tb.2 b (nP b hb)]; exact (f2 b hb).1, (f2 b hb).2⟩, Nat.lt_of_lt_of_le (sz b hb) hsz⟩
    generalize hs3 : ({ s2 with heap := h3, toks := tk } : Shared) = s3 at I3 f3 hn' hs' ⊢
    have eh3 : s3.heap = h3 := by rw [← hs3]
    have hsz' : h'.objs.size = s3.heap.objs.size + 1 := by rw [hs'.1, Heap.size_push]
    have keep' : ∀ b o, s3.heap.get? b = some o → h'.get? b = some o := fun b o e => hs'.extBut b o (Nat.ne_of_lt (Heap.lt_size e)) (Heap.get?_push_of_some _ e)
    generalize hgo : ({ cls := .type "generator", data := .fields #[.int s3.gens.size 0, .str "<genexpr>" (s3.toks + 1), .str (X.env.qual ++ "<genexpr>") (s3.toks + 1 + 1)] } : Obj) = go
    have isG : ∀ h : Heap, h.get? h'.objs.size = some go → h.IsGen h'.objs.size s3.gens.size := fun h e => ⟨go, _, _, e, by rw [← hgo], by rw [← hgo], by rw [← hgo]⟩
    have got : (h'.push go).get? h'.objs.size = some go := Heap.get?_push_size _ (by rw [← hgo]; rfl)
    have keep5 : ∀ b o, s3.heap.get? b = some o → (h'.push go).get? b = some o := fun b o e => Heap.get?_push_of_some _ (keep' b o e)
    have st5 : tn 0 (h'.push go) := T.keep _ _ _ st2 fun b hb o e => keep5 b o (by rw [eh3]; exact keep3 b o (nP b hb) e)
    refine hQ h'.objs.size s3.gens.size _ _ J H2 H3 q tb (I3.nolimit.keeps keep5) (isG _ got) (Array.getElem?_push_size ..) fun stop Q W turn ⟨m0, w0⟩ => ?_
    refine ⟨m0 + 1, rfl, ?_⟩
    have I5 := gen_start (scope := scope) (own := own) (fp := fp) (code := code) (A := gAr X (gCe X scope (cloFrom X.env.cells scope.names []) s3.heap.objs.size code)) (pn := [(h'.objs.size, go)]) (h5 := h'.push go)
      (g' := (s3.gens.push (.fresh (.compStart (.GeneratorExp elt [⟨tg, iter, ifs, 0⟩, ⟨tg2, iter2, ifs2, 0⟩] scope gpos) 0 (.ref it) .none (genEnv scope (cloFrom X.env.cells scope.names []) s3.heap.objs.size code builtinsNs X.env)))).setIfInBounds s3.gens.size .running) (t' := s3.toks + 1 + 1 + 1) (d' := s3.drawn) I3 ok hcell hN f3
      hr.hd (by show Option.map _ X.A.frames = _; rw [I3.ok.frames]; rfl) keep5 ((hn').keeps fun b o e => Heap.get?_push_of_some _ e)
      (allBare_setGen (s := { s3 with gens := s3.gens.push (.fresh (.compStart (.GeneratorExp elt [⟨tg, iter, ifs, 0⟩, ⟨tg2, iter2, ifs2, 0⟩] scope gpos) 0 (.ref it) .none (genEnv scope (cloFrom X.env.cells scope.names []) s3.heap.objs.size code builtinsNs X.env))) }) (I3.bare.push rfl) rfl)
      (fun p hp => by
        rw [List.mem_singleton.mp hp]
        refine ⟨got, by show s3.heap.objs.size < h'.objs.size; omega, fun v z => by rw [← hgo] at z; cases z⟩)
    refine seg_gs2 (fun A Q E hq => T.self A 0 _ Q E st5 hq) ?_
    exact seg_gx2 (go := go) I3 hc f3 T hco isG (fun b hb z => by
        have h9 : (h'.objs.size : Nat) < s3.heap.objs.size := by rw [show (h'.objs.size : Nat) = b from z]; exact (f3 b hb).2
        omega) hv2 (hg _ _ _ _ _ _ _) (ht _ _ _ _ _ _ _) (hi2 _ _ _ _ _ _ _) (hg2 _ _ _ _ _ _ _) (ht2 _ _ _ _ _ _ _) (he _ _ _ _ _ _ _) (fun x => hs2 _ x) turn m0 (m0 + 1) 0 _ _ H3 (Nat.lt_succ_self _) I5 st5 (fun b hb => (f3 b hb).1.1) w0
  cases hf : codeAmong gpos ps.toList with
  | none =>
    refine wpAny_genexprCodeX hcode (cd.code hPs htr) (cd.tab hPs) hf fun c' h' tk hx hge hlt hco' _ htab' _ => ?_
    obtain ⟨o1, vs, f1, tf, fl, tg', inF, tx, tt', op, _, _, _, _, _, _, _, _, _, htr', _⟩ := hco'
    exact cont _ h' tk _ hx (Nat.le_trans hge (Nat.le_of_lt hlt)) htab'.2 ⟨_, rfl⟩ htr'
  | some cv =>
    refine wpAny_genexprCode_hit hcode (cd.code hPs htr) hf ?_
    exact cont cv s2.heap s2.toks ps (Heap.ExtBut.refl _ _) (Nat.le_refl _) hPs ⟨#[], by simp⟩ htr
end

abbrev tGx2 (stop : Bool) (P : Addr) (wi : TI) (g : TG) (tt : TT) (wi2 : TI) (g2 : TG) (tt2 : TT) (te : TE) (vs vs2 : List Nat) : TE := fun σ H Q => wi σ H fun J H1 => TabG H1 P ∧ ∀ H2, Tabbed P H1 H2 → ∃ W : Nat → Nat → Hp → Prop, (∃ m, W 0 m H2) ∧ GTurns2 J g tt wi2 g2 tt2 te vs vs2 σ stop (fun b H' => Q (.bl b) H') W
abbrev RR2 (stop : Bool) (wi : TI) (g : TG) (tt : TT) (wi2 : TI) (g2 : TG) (tt2 : TT) (te : TE) (P : Addr) (vs vs2 : List Nat) (σ : L2.St) (Q : VK) : It → Hp → Prop := fun J H1 => ∀ H2, Tabbed P H1 H2 → ∃ W : Nat → Nat → Hp → Prop, (∃ m, W 0 m H2) ∧ GTurns2 J g tt wi2 g2 tt2 te vs vs2 σ stop (fun b H' => Q (.bl b) H') W
section
variable {X : Cx}
theorem pe_anyGx2 {c P : Addr} {elt tg iter tg2 iter2 : Expr} {ifs ifs2 : List Expr} {scope : Scope} {own : List (Str × Nat)} {p gpos pos : Pos} {vs2 : List Nat} {g g2 : TG} {tt tt2 : TT} {te : TE} {wi wi2 : TI} {k : Nat}
    (hgl : Gl X "any") (hm : X.mg "any" = none)
    (hr : Room (k + 3) X.A) (hc : X.calm = true) (hN : X.N.Nodup) (TB : TabB X.base X.mg c P) (hcode : X.env.code = .ref c) (ok : BlkOk X.N X.env.scope scope own) (hco : scope.isCoroutine = false) (hcell : ∀ y ∈ scope.names, y.2 ≠ .cell)
    (hdot : scope.names.lookup (".0" : Str) = some NameKind.local) (hi : PI X tg iter wi)
    (hg : ∀ (s : Shared) (H : Hp) (C : Addr) (cl : List (Str × Addr)) (fp : List Addr) (code : Value) (pn : List (Addr × Obj)), PG (gblk X s H scope (gCe X scope cl C code) fp (gAr X (gCe X scope cl C code)) pn) tg g)
    (ht : ∀ (s : Shared) (H : Hp) (C : Addr) (cl : List (Str × Addr)) (fp : List Addr) (code : Value) (pn : List (Addr × Obj)), PTs (gblk X s H scope (gCe X scope cl C code) fp (gAr X (gCe X scope cl C code)) pn) ifs tt)
    (he : ∀ (s : Shared) (H : Hp) (C : Addr) (cl : List (Str × Addr)) (fp : List Addr) (code : Value) (pn : List (Addr × Obj)), PE (gblk X s H scope (gCe X scope cl C code) fp (gAr X (gCe X scope cl C code)) pn) elt te)
    (hi2 : ∀ (s : Shared) (H : Hp) (C : Addr) (cl : List (Str × Addr)) (fp : List Addr) (code : Value) (pn : List (Addr × Obj)), PI (gblk X s H scope (gCe X scope cl C code) fp (gAr X (gCe X scope cl C code)) pn) tg2 iter2 wi2)
    (hg2 : ∀ (s : Shared) (H : Hp) (C : Addr) (cl : List (Str × Addr)) (fp : List Addr) (code : Value) (pn : List (Addr × Obj)), PG (gblk X s H scope (gCe X scope cl C code) fp (gAr X (gCe X scope cl C code)) pn) tg2 g2)
    (ht2 : ∀ (s : Shared) (H : Hp) (C : Addr) (cl : List (Str × Addr)) (fp : List Addr) (code : Value) (pn : List (Addr × Obj)), PTs (gblk X s H scope (gCe X scope cl C code) fp (gAr X (gCe X scope cl C code)) pn) ifs2 tt2) (hv2 : ∀ j ∈ vs2, j ∈ own.map (·.2)) (hs2 : ∀ (env : Env) x, foldedSetIterable iter2 env x = pure x)
    (hs : ∀ v, genFold iter X.env v = pure v)
    (hst : starEach [.GeneratorExp elt [⟨tg, iter, ifs, 0⟩, ⟨tg2, iter2, ifs2, 0⟩] scope gpos] X.env = (false, eval (.GeneratorExp elt [⟨tg, iter, ifs, 0⟩, ⟨tg2, iter2, ifs2, 0⟩] scope gpos) X.env) :: starEach [] X.env := by rfl) :
    PE X (.Call (.Name "any" p) [.GeneratorExp elt [⟨tg, iter, ifs, 0⟩, ⟨tg2, iter2, ifs2, 0⟩] scope gpos] [] pos) (tGx2 true P wi g tt wi2 g2 tt2 te (own.map (·.2)) vs2) := by
  refine ⟨fun pins s σ H Q I h => ?_⟩
  refine wpAny_Call_Name_kw (ld_blt I hgl hm boot_any ?_)
  refine PyProof.Rows.callWith_builtin1 ?_ hst (by rfl)
  rw [hst]
  show wpAny _ _ (spliced ((false, eval (.GeneratorExp elt [⟨tg, iter, ifs, 0⟩, ⟨tg2, iter2, ifs2, 0⟩] scope gpos) X.env) :: backTo pos (starEach [] X.env))) _ _ s
  refine Calls.spliced_cons (gx_made2 (own := own) (RR := RR2 true wi g tt wi2 g2 tt2 te P (List.map (fun x : Str × Nat => x.2) own) vs2 σ Q) hr hc hN TB hcode ok hco hcell hdot hi hg ht he hi2 hg2 ht2 hv2 hs2 hs I h fun ga gn gs s5 J H1 H2 hR tb nol isg hgs hgo => ?_)
  obtain ⟨W, hW, turns⟩ := hR H2 tb
  obtain ⟨n, goes⟩ := hgo true _ W turns hW
  refine Calls.spliced_nil ?_
  refine call_function_tree F.kind_any F.plain_any F.entry_any (F.args_any1 _) ?_
  unfold Builtin.«any»
  refine wpAny_bind (m := oneArg "any" _) (wpAny_pure ?_)
  refine wpAny_bind (wpAny_pyIter_gen isg ?_)
  exact wpAny_pure ⟨plainId_quiet F.plain_any_loop _, drv_any hr.hd hr.depth (fun b H' s' I' hq => ⟨.bl b, H', I', rfl, hq⟩) n s5 gs nol isg hgs goes⟩
theorem pe_allGx2 {c P : Addr} {elt tg iter tg2 iter2 : Expr} {ifs ifs2 : List Expr} {scope : Scope} {own : List (Str × Nat)} {p gpos pos : Pos} {vs2 : List Nat} {g g2 : TG} {tt tt2 : TT} {te : TE} {wi wi2 : TI} {k : Nat}
    (hgl : Gl X "all") (hm : X.mg "all" = none) (hb : bootBuiltins "all" = some (.builtin "all"))
    (hr : Room (k + 3) X.A) (hc : X.calm = true) (hN : X.N.Nodup) (TB : TabB X.base X.mg c P) (hcode : X.env.code = .ref c) (ok : BlkOk X.N X.env.scope scope own) (hco : scope.isCoroutine = false) (hcell : ∀ y ∈ scope.names, y.2 ≠ .cell)
    (hdot : scope.names.lookup (".0" : Str) = some NameKind.local) (hi : PI X tg iter wi)
    (hg : ∀ (s : Shared) (H : Hp) (C : Addr) (cl : List (Str × Addr)) (fp : List Addr) (code : Value) (pn : List (Addr × Obj)), PG (gblk X s H scope (gCe X scope cl C code) fp (gAr X (gCe X scope cl C code)) pn) tg g)
    (ht : ∀ (s : Shared) (H : Hp) (C : Addr) (cl : List (Str × Addr)) (fp : List Addr) (code : Value) (pn : List (Addr × Obj)), PTs (gblk X s H scope (gCe X scope cl C code) fp (gAr X (gCe X scope cl C code)) pn) ifs tt)
    (he : ∀ (s : Shared) (H : Hp) (C : Addr) (cl : List (Str × Addr)) (fp : List Addr) (code : Value) (pn : List (Addr × Obj)), PE (gblk X s H scope (gCe X scope cl C code) fp (gAr X (gCe X scope cl C code)) pn) elt te)
    (hi2 : ∀ (s : Shared) (H : Hp) (C : Addr) (cl : List (Str × Addr)) (fp : List Addr) (code : Value) (pn : List (Addr × Obj)), PI (gblk X s H scope (gCe X scope cl C code) fp (gAr X (gCe X scope cl C code)) pn) tg2 iter2 wi2)
    (hg2 : ∀ (s : Shared) (H : Hp) (C : Addr) (cl : List (Str × Addr)) (fp : List Addr) (code : Value) (pn : List (Addr × Obj)), PG (gblk X s H scope (gCe X scope cl C code) fp (gAr X (gCe X scope cl C code)) pn) tg2 g2)
    (ht2 : ∀ (s : Shared) (H : Hp) (C : Addr) (cl : List (Str × Addr)) (fp : List Addr) (code : Value) (pn : List (Addr × Obj)), PTs (gblk X s H scope (gCe X scope cl C code) fp (gAr X (gCe X scope cl C code)) pn) ifs2 tt2) (hv2 : ∀ j ∈ vs2, j ∈ own.map (·.2)) (hs2 : ∀ (env : Env) x, foldedSetIterable iter2 env x = pure x)
    (hs : ∀ v, genFold iter X.env v = pure v)
    (hst : starEach [.GeneratorExp elt [⟨tg, iter, ifs, 0⟩, ⟨tg2, iter2, ifs2, 0⟩] scope gpos] X.env = (false, eval (.GeneratorExp elt [⟨tg, iter, ifs, 0⟩, ⟨tg2, iter2, ifs2, 0⟩] scope gpos) X.env) :: starEach [] X.env := by rfl) :
    PE X (.Call (.Name "all" p) [.GeneratorExp elt [⟨tg, iter, ifs, 0⟩, ⟨tg2, iter2, ifs2, 0⟩] scope gpos] [] pos) (tGx2 false P wi g tt wi2 g2 tt2 te (own.map (·.2)) vs2) := by
  refine ⟨fun pins s σ H Q I h => ?_⟩
  refine wpAny_Call_Name_kw (ld_blt I hgl hm hb ?_)
  refine PyProof.Rows.callWith_builtin1 ?_ hst (by rfl)
  rw [hst]
  show wpAny _ _ (spliced ((false, eval (.GeneratorExp elt [⟨tg, iter, ifs, 0⟩, ⟨tg2, iter2, ifs2, 0⟩] scope gpos) X.env) :: backTo pos (starEach [] X.env))) _ _ s
  refine Calls.spliced_cons (gx_made2 (own := own) (RR := RR2 false wi g tt wi2 g2 tt2 te P (List.map (fun x : Str × Nat => x.2) own) vs2 σ Q) hr hc hN TB hcode ok hco hcell hdot hi hg ht he hi2 hg2 ht2 hv2 hs2 hs I h fun ga gn gs s5 J H1 H2 hR tb nol isg hgs hgo => ?_)
  obtain ⟨W, hW, turns⟩ := hR H2 tb
  obtain ⟨n, goes⟩ := hgo false _ W turns hW
  refine Calls.spliced_nil ?_
  refine call_function_tree F.kind_all F.plain_all F.entry_all (F.args_all1 _) ?_
  unfold Builtin.«all»
  refine wpAny_bind (m := oneArg "all" _) (wpAny_pure ?_)
  refine wpAny_bind (wpAny_pyIter_gen isg ?_)
  exact wpAny_pure ⟨plainId_quiet F.plain_all_loop _, drv_all hr.hd hr.depth (fun b H' s' I' hq => ⟨.bl b, H', I', rfl, hq⟩) n s5 gs nol isg hgs goes⟩
end

/-! ### the plain reading -/
def gx2Loop (stop : Bool) (t : Tg) (tt : Tn) (wi2 : Wn) (t2 : Tg) (tt2 : Tn) (te : Dn) (vs2 : List Nat) (env0 : EnvP) (gd : Guard) : List PV → M Bool
  | [] => pure (!stop)
  | x :: xs => do
    let env ← setT t x env0
    let b ← tt env
    if b then do
      let p ← wi2 env
      let c ← gxLoop stop t2 tt2 te (wipeP env vs2) p.2 p.1
      if c = stop then pure stop else do
        chk gd
        gx2Loop stop t tt wi2 t2 tt2 te vs2 env0 gd xs
    else do
      chk gd
      gx2Loop stop t tt wi2 t2 tt2 te vs2 env0 gd xs
/-- a bound of its turns -/
def gx2N (stop : Bool) (t : Tg) (tt : Tn) (wi2 : Wn) (t2 : Tg) (tt2 : Tn) (te : Dn) (vs2 : List Nat) (env0 : EnvP) : List PV → Store → Nat
  | [], _ => 0
  | x :: xs, st => match setT t x env0 st with
    | .ok env st1 => (match tt env st1 with
      | .ok true st2 => (match wi2 env st2 with
        | .ok p st3 => (match gxLoop stop t2 tt2 te (wipeP env vs2) p.2 p.1 st3 with
          | .ok _ st4 => p.1.length + 3 + gx2N stop t tt wi2 t2 tt2 te vs2 env0 xs st4
          | _ => 0)
        | _ => 0)
      | .ok false st2 => 1 + gx2N stop t tt wi2 t2 tt2 te vs2 env0 xs st2
      | _ => 0)
    | _ => 0
def cGx2 (stop : Bool) (wi : Wn) (t : Tg) (tt : Tn) (wi2 : Wn) (t2 : Tg) (tt2 : Tn) (te : Dn) (own vs2 : List Nat) : Dn := fun env => do
  let p ← wi env
  let b ← noEx (gx2Loop stop t tt wi2 t2 tt2 te vs2 (wipeP env own) p.2 p.1)
  pure (.bl b)
theorem gx_cons {stop : Bool} {t : Tg} {tt : Tn} {te : Dn} {env0 : EnvP} {gd : Guard} {x : PV} {xs : List PV} {st stE : Store} {rs : Bool} (h : gxLoop stop t tt te env0 gd (x :: xs) st = .ok rs stE) :
    ∃ env1 b st4, setT t x env0 st = .ok env1 st ∧ tt env1 st = .ok b st4 ∧ ((b = false ∧ gdOk gd st4 = true ∧ gxLoop stop t tt te env0 gd xs st4 = .ok rs stE) ∨
      (b = true ∧ ∃ c st5, te env1 st4 = .ok (.bl c) st5 ∧ ((c = stop ∧ rs = stop ∧ stE = st5) ∨ (c ≠ stop ∧ gdOk gd st5 = true ∧ gxLoop stop t tt te env0 gd xs st5 = .ok rs stE)))) := by
  obtain ⟨env1, st3, q1, h3⟩ := bind_inv (show (setT t x env0 >>= _) st = _ from h)
  obtain rfl := setT_st t x _ env1 st st3 q1
  obtain ⟨b, st4, q2, h4⟩ := bind_inv h3
  refine ⟨env1, b, st4, q1, q2, ?_⟩
  cases b with
  | false =>
    obtain ⟨_, st5, q3, h5⟩ := bind_inv (show (chk gd >>= fun _ => gxLoop stop t tt te env0 gd xs) st4 = .ok rs stE from h4)
    unfold chk at q3
    split at q3
    · rename_i hg4
      cases q3
      exact .inl ⟨rfl, hg4, h5⟩
    · cases q3
  | true =>
    obtain ⟨z, st5, q3, h5⟩ := bind_inv (show (te env1 >>= fun y => match y with
        | .bl c => if c = stop then pure stop else do chk gd; gxLoop stop t tt te env0 gd xs
        | _ => M.fail) st4 = .ok rs stE from h4)
    refine .inr ⟨rfl, ?_⟩
    cases z with
    | bl c =>
      refine ⟨c, st5, q3, ?_⟩
      have h5 : (if c = stop then (pure stop : M Bool) else do chk gd; gxLoop stop t tt te env0 gd xs) st5 = .ok rs stE := h5
      by_cases hcs : c = stop
      · rw [if_pos hcs] at h5
        cases h5
        exact .inl ⟨hcs, rfl, rfl⟩
      · rw [if_neg hcs] at h5
        obtain ⟨_, st6, q4, h6⟩ := bind_inv h5
        unfold chk at q4
        split at q4
        · rename_i hg5
          cases q4
          exact .inr ⟨hcs, hg5, h6⟩
        · cases q4
    | _ => cases h5
theorem gx2_cons {stop : Bool} {t t2 : Tg} {tt tt2 : Tn} {wi2 : Wn} {te : Dn} {vs2 : List Nat} {env0 : EnvP} {gd : Guard} {x : PV} {xs : List PV} {st stE : Store} {rs : Bool} (h : gx2Loop stop t tt wi2 t2 tt2 te vs2 env0 gd (x :: xs) st = .ok rs stE) :
    ∃ env1 b st4, setT t x env0 st = .ok env1 st ∧ tt env1 st = .ok b st4 ∧ ((b = false ∧ gdOk gd st4 = true ∧ gx2Loop stop t tt wi2 t2 tt2 te vs2 env0 gd xs st4 = .ok rs stE ∧ gx2N stop t tt wi2 t2 tt2 te vs2 env0 (x :: xs) st = 1 + gx2N stop t tt wi2 t2 tt2 te vs2 env0 xs st4) ∨
      (b = true ∧ ∃ p st5 c st6, wi2 env1 st4 = .ok p st5 ∧ gxLoop stop t2 tt2 te (wipeP env1 vs2) p.2 p.1 st5 = .ok c st6 ∧ gx2N stop t tt wi2 t2 tt2 te vs2 env0 (x :: xs) st = p.1.length + 3 + gx2N stop t tt wi2 t2 tt2 te vs2 env0 xs st6 ∧
        ((c = stop ∧ rs = stop ∧ stE = st6) ∨ (c ≠ stop ∧ gdOk gd st6 = true ∧ gx2Loop stop t tt wi2 t2 tt2 te vs2 env0 gd xs st6 = .ok rs stE)))) := by
  obtain ⟨env1, st3, q1, h3⟩ := bind_inv (show (setT t x env0 >>= _) st = _ from h)
  obtain rfl := setT_st t x _ env1 st st3 q1
  obtain ⟨b, st4, q2, h4⟩ := bind_inv h3
  refine ⟨env1, b, st4, q1, q2, ?_⟩
  cases b with
  | false =>
    obtain ⟨_, st5, q3, h5⟩ := bind_inv (show (chk gd >>= fun _ => gx2Loop stop t tt wi2 t2 tt2 te vs2 env0 gd xs) st4 = .ok rs stE from h4)
    unfold chk at q3
    split at q3
    · rename_i hg4
      cases q3
      exact .inl ⟨rfl, hg4, h5, by rw [gx2N, q1]; simp only; rw [q2]⟩
    · cases q3
  | true =>
    refine .inr ⟨rfl, ?_⟩
    obtain ⟨p, st5, q3, h5⟩ := bind_inv (show (wi2 env1 >>= fun p => gxLoop stop t2 tt2 te (wipeP env1 vs2) p.2 p.1 >>= fun c => if c = stop then pure stop else do chk gd; gx2Loop stop t tt wi2 t2 tt2 te vs2 env0 gd xs) st4 = .ok rs stE from h4)
    obtain ⟨c, st6, q4, h6⟩ := bind_inv h5
    refine ⟨p, st5, c, st6, q3, q4, by rw [gx2N, q1]; simp only; rw [q2]; simp only; rw [q3]; simp only; rw [q4], ?_⟩
    by_cases hcs : c = stop
    · rw [if_pos hcs] at h6
      cases h6
      exact .inl ⟨hcs, rfl, rfl⟩
    · rw [if_neg hcs] at h6
      obtain ⟨_, st7, q5, h7⟩ := bind_inv h6
      unfold chk at q5
      split at q5
      · rename_i hg5
        cases q5
        exact .inr ⟨hcs, hg5, h7⟩
      · cases q5
section
variable {g : Gd} {W : XW}
theorem tGx2_of {stop : Bool} {P : Addr} {wi wi2 : Wn} {t t2 : Tg} {tt tt2 : Tn} {te : Dn} {vs vs2 : List Nat} (hP : P ∈ g.tabs) (ht : ∀ j ∈ t.slots, j ∈ vs) (ht2 : ∀ j ∈ t2.slots, j ∈ vs2) {σ : L2.St} {H : Hp} {Q : VK} (h : tI g W (cGx2 stop wi t tt wi2 t2 tt2 te vs vs2) σ H Q) :
    tGx2 stop P (tW g W wi) (tG g W0 t) (tT g W0 tt) (tW g W0 wi2) (tG g W0 t2) (tT g W0 tt2) (tI g W0 te) vs vs2 σ H Q := by
  obtain ⟨ρ, env, st, E, S, h⟩ := h
  refine ⟨ρ, env, st, E, S, (Post.bind h).mono fun p st1 ρ1 H1 x1 S1 h1 hg J wok => ⟨S1.tabs P hP, fun H2 tb => ?_⟩⟩
  obtain ⟨rs, stE, hres, hfin⟩ := (Post.bind h1).noEx
  obtain ⟨G, Y, wk, hG, hY⟩ := wok.ex
  have E1 := (E.ext S x1).wipe vs
  obtain ⟨xt, St⟩ := tabbed_ext S1 hP tb
  let N : List PV → Store → Nat := gx2N stop t tt wi2 t2 tt2 te vs2 (wipeP env vs)
  let Wv : Nat → Nat → Hp → Prop := fun i m H2 => i ≤ p.1.length ∧ ∃ ρ2 st2, m = N (p.1.drop i) st2 ∧ Ext ρ1 H1 ρ2 H2 ∧ Sim g ρ2 st2 H2 ∧ gdOk p.2 st2 = true ∧ EnvR g ρ2 H2 (L2.wipe σ vs) (wipeP env vs) ∧
    gx2Loop stop t tt wi2 t2 tt2 te vs2 (wipeP env vs) p.2 (p.1.drop i) st2 = .ok rs stE
  refine ⟨Wv, ⟨N (p.1.drop 0) st1, Nat.zero_le _, ρ1, st1, rfl, xt, St, hg, E1.ext S1 xt, by rw [List.drop_zero]; exact hres⟩, ?_⟩
  rintro i m H2 ⟨hi, ρ2, st2, rfl, x2, S2, hg2, E2, hres2⟩
  have q := hG ρ2 st2 H2 x2 S2 hg2
  by_cases hlt : i < p.1.length
  · refine .inr ⟨wk.goes i H2 hlt q, fun x H3 y => ?_⟩
    obtain ⟨d, hd, x3, S3, hv⟩ := hY i H2 x H3 ρ2 st2 hlt x2 S2 hg2 (wk.yields i H2 x H3 hlt q y)
    have hdrop : p.1.drop i = d :: p.1.drop (i + 1) := by
      obtain ⟨hl, e⟩ := List.getElem?_eq_some_iff.mp hd
      rw [List.drop_eq_getElem_cons hl, e]
    rw [hdrop] at hres2
    obtain ⟨env1, b, st4, q1, q2, rest⟩ := gx2_cons hres2
    refine ⟨ρ2, wipeP env vs, st2, d, E2.ext S2 x3, S3, hv, Post.of_ok q1 fun ρ' H' _ _ e1 e2 σ' E' O' => ⟨(O'.wipe ht).trans wipe_wipe, ?_⟩⟩
    subst e1; subst e2
    refine ⟨ρ', env1, st2, E', S3, Post.of_ok q2 fun ρ4 H4 x4 S4 => ?_⟩
    have x24 := x3.trans x4
    rcases rest with ⟨rfl, hg4, hres4, hN⟩ | ⟨rfl, p2, st5, c, st6, q3, q4, hN, rest⟩
    · refine iteF ⟨_, ?_, hlt, ρ4, st4, rfl, x2.trans x24, S4, hg4, E2.ext S2 x24, hres4⟩
      show N (p.1.drop (i + 1)) st4 < N (p.1.drop i) st2
      rw [hdrop]
      show N (p.1.drop (i + 1)) st4 < gx2N stop t tt wi2 t2 tt2 te vs2 (wipeP env vs) (d :: p.1.drop (i + 1)) st2
      rw [hN]
      show _ < 1 + N _ _
      omega
    · refine iteT ⟨ρ4, env1, st4, E'.ext S3 x4, S4, Post.of_ok q3 fun ρ5 H5 x5 S5 hg5 J2 wok2 => ?_⟩
      obtain ⟨G2, Y2, wk2, hG2, hY2⟩ := wok2.ex
      have x25 := x24.trans x5
      have E5 := ((E'.ext S3 x4).ext S4 x5).wipe vs2
      have hNm : N (p.1.drop i) st2 = p2.1.length + 3 + N (p.1.drop (i + 1)) st6 := by rw [hdrop]; exact hN
      refine ⟨fun j m2 H6 => j ≤ p2.1.length ∧ m2 = p2.1.length - j + 1 + N (p.1.drop (i + 1)) st6 ∧ ∃ ρ6 st6', Ext ρ5 H5 ρ6 H6 ∧ Sim g ρ6 st6' H6 ∧ gdOk p2.2 st6' = true ∧ EnvR g ρ6 H6 (L2.wipe σ' vs2) (wipeP env1 vs2) ∧
        gxLoop stop t2 tt2 te (wipeP env1 vs2) p2.2 (p2.1.drop j) st6' = .ok c st6, ⟨p2.1.length - 0 + 1 + N (p.1.drop (i + 1)) st6, by omega, Nat.zero_le _, rfl, ρ5, st5, Ext.refl _ _, S5, hg5, E5, by rw [List.drop_zero]; exact q4⟩, ?_⟩
      rintro j m2 H6 ⟨hj, rfl, ρ6, st6', x6, S6, hg6, E6, hres6⟩
      have qq := hG2 ρ6 st6' H6 x6 S6 hg6
      have x26 := x25.trans x6
      by_cases hjl : j < p2.1.length
      · refine .inr ⟨wk2.goes j H6 hjl qq, fun y H7 yy => ?_⟩
        obtain ⟨d2, hd2, x7, S7, hv2⟩ := hY2 j H6 y H7 ρ6 st6' hjl x6 S6 hg6 (wk2.yields j H6 y H7 hjl qq yy)
        have hdrop2 : p2.1.drop j = d2 :: p2.1.drop (j + 1) := by
          obtain ⟨hl, e⟩ := List.getElem?_eq_some_iff.mp hd2
          rw [List.drop_eq_getElem_cons hl, e]
        rw [hdrop2] at hres6
        obtain ⟨env3, b3, st8, r1, r2, rest2⟩ := gx_cons hres6
        refine ⟨ρ6, wipeP env1 vs2, st6', d2, E6.ext S6 x7, S7, hv2, Post.of_ok r1 fun ρ7 H7' _ _ e1 e2 σ7 E7 O7 => ⟨(O7.wipe ht2).trans wipe_wipe, ?_⟩⟩
        subst e1; subst e2
        refine ⟨ρ7, env3, st6', E7, S7, Post.of_ok r2 fun ρ8 H8 x8 S8 => ?_⟩
        have x68 := x7.trans x8
        rcases rest2 with ⟨rfl, hg8, hres8⟩ | ⟨rfl, c2, st9, r3, rest2⟩
        · refine iteF ⟨_, ?_, hjl, rfl, ρ8, st8, x6.trans x68, S8, hg8, E6.ext S6 x68, hres8⟩
          omega
        · refine iteT ⟨ρ8, env3, st8, E7.ext S7 x8, S8, Post.of_ok r3 fun ρ9 H9 x9 S9 v9 hv9 => ?_⟩
          have x69 := x68.trans x9
          cases hv9 with
          | bl c3 =>
            refine ⟨c2, rfl, fun hcs => ?_, fun hcs => ?_⟩
            · rcases rest2 with ⟨_, rfl, rfl⟩ | ⟨hn, _, _⟩
              · rcases rest with ⟨_, rfl, rfl⟩ | ⟨hn, _, _⟩
                · exact hfin ρ9 H9 (x2.trans (x26.trans x69)) S9 ρ9 H9 (Ext.refl _ _) S9 _ (.bl _)
                · exact absurd rfl hn
              · exact absurd hcs hn
            · rcases rest2 with ⟨hn, _, _⟩ | ⟨_, hg9, hres9⟩
              · exact absurd hn hcs
              · exact ⟨_, by omega, hjl, rfl, ρ9, st9, x6.trans x69, S9, hg9, E6.ext S6 x69, hres9⟩
      · have e : j = p2.1.length := by omega
        subst e
        rw [List.drop_length] at hres6
        cases hres6
        refine .inl ⟨wk2.stops H6 qq, ?_⟩
        rcases rest with ⟨hn, _, _⟩ | ⟨_, hg9, hres9⟩
        · cases stop <;> cases hn
        · exact ⟨_, by omega, hlt, ρ6, st6, rfl, x2.trans x26, S6, hg9, E2.ext S2 x26, hres9⟩
  · have e : i = p.1.length := by omega
    subst e
    rw [List.drop_length] at hres2
    cases hres2
    exact .inl ⟨wk.stops H2 q, hfin ρ2 H2 x2 S2 ρ2 H2 (Ext.refl _ _) S2 _ (.bl _)⟩
end
end PyI

/-! PyH3: int(t, 2). -/
namespace PyI
open L2 PySem PySem.Spec PyProof.Rows
namespace Bn
open PySem.NumText PySem.Calls L2.Hx
def IsBit (c : Nat) : Prop := c = 48 ∨ c = 49
instance (c : Nat) : Decidable (IsBit c) := inferInstanceAs (Decidable (_ ∨ _))
theorem IsBit.hex {c : Nat} (h : IsBit c) : IsHex c := by
  unfold IsBit at h; unfold IsHex; omega
def binNum (l : List Nat) : Nat := l.foldl (fun a c => a * 2 + (c - 48)) 0
theorem hv_bit {c : Nat} (h : IsBit c) : hv c = c - 48 := by
  unfold IsBit at h
  unfold hv
  rw [if_pos (by omega)]
theorem step_bin {ds : Array Nat} {b : Bool} {c : Nat} (h : IsBit c) : PySem.NumText.step 2 (ds, b) c = some (ds.push (c - 48), true) := by
  unfold PySem.NumText.step
  rw [if_neg (by unfold IsBit at h; rw [beq_iff_eq]; omega), digit_hex h.hex, hv_bit h]
  exact if_pos (by unfold IsBit at h; omega)
theorem foldl_bin : ∀ (l : List Nat) (ds : Array Nat), (∀ c ∈ l, IsBit c) → l.foldlM (PySem.NumText.step 2) (ds, true) = some (l.foldl (fun acc c => acc.push (c - 48)) ds, true)
  | [], _, _ => rfl
  | c :: l, ds, h => by
    rw [List.foldlM_cons, step_bin (h c List.mem_cons_self)]
    show l.foldlM (PySem.NumText.step 2) (ds.push (c - 48), true) = _
    exact foldl_bin l _ fun d hd => h d (List.mem_cons_of_mem _ hd)
theorem digits_bin {l : List Nat} (h : ∀ c ∈ l, IsBit c) (hne : l ≠ []) : digits? 2 l = some (l.foldl (fun acc c => acc.push (c - 48)) #[]) := by
  cases l with
  | nil => exact absurd rfl hne
  | cons c l =>
    unfold digits?
    rw [List.foldlM_cons, step_bin (h c List.mem_cons_self)]
    show (l.foldlM (PySem.NumText.step 2) ((#[] : Array Nat).push (c - 48), true)).bind _ = _
    rw [foldl_bin l _ fun d hd => h d (List.mem_cons_of_mem _ hd)]
    rfl
theorem push_bin : ∀ (l : List Nat) (ds : Array Nat), (l.foldl (fun acc c => acc.push (c - 48)) ds).foldl (fun acc d => acc * 2 + d) 0 = l.foldl (fun a c => a * 2 + (c - 48)) (ds.foldl (fun acc d => acc * 2 + d) 0)
  | [], _ => rfl
  | c :: l, ds => by
    rw [List.foldl_cons, push_bin l (ds.push (c - 48)), List.foldl_cons]
    congr 1
    simp
theorem based_bin {l : List Nat} (h : ∀ c ∈ l, IsBit c) : based 2 l = (2, false, l) := by
  match l, h with
  | [], _ => rfl
  | [a], h =>
    rcases h a List.mem_cons_self with rfl | rfl <;> rfl
  | a :: c :: r, h =>
    rcases h a List.mem_cons_self with rfl | rfl <;> rcases h c (List.mem_cons_of_mem _ List.mem_cons_self) with rfl | rfl <;> rfl
theorem read_bin {l : List Nat} (h : ∀ c ∈ l, IsBit c) (hne : l ≠ []) : (int_private% "readNumeral") 0 2 l = (int_private% "Numeral.value") ((binNum l : Nat) : Int) := by
  have hr : ∀ c ∈ l.reverse, IsHex c := fun c hc => (h c (List.mem_reverse.mp hc)).hex
  have hx : ∀ c ∈ l, IsHex c := fun c hc => (h c hc).hex
  refine (readNumeral_eq 0 2 l).trans ?_
  rw [dropB hx, signH hx]
  show judge 0 false (based 2 l).1 (based 2 l).2.1 (digits? (based 2 l).1 (((based 2 l).2.2.reverse.dropWhile blank).reverse)) = _
  rw [based_bin h]
  show judge 0 false 2 false (digits? 2 ((l.reverse.dropWhile blank).reverse)) = _
  rw [dropB hr, List.reverse_reverse, digits_bin h hne]
  show (int_private% "Numeral.value") (((l.foldl (fun acc c => acc.push (c - 48)) (#[] : Array Nat)).foldl (fun acc d => acc * 2 + d) 0 : Nat) : Int) = _
  have z : (#[] : Array Nat).foldl (fun acc d => acc * 2 + d) 0 = 0 := by first | rfl | simp
  rw [push_bin, z] <;> rfl
theorem gives_bin {x : PySem.Str} {u t : Tok} (hl : x.length ≤ 640) (h : ∀ c ∈ x.cps.toList, IsBit c) (hne : x.cps.toList ≠ []) :
    Gives (Builtin.«int.__new__» ⟨[.type "int", .str x u, .int 2 t], []⟩) (.int ((binNum x.cps.toList : Nat) : Int)) :=
  .of_wp fun M A E s Q hQ => by
    obtain ⟨hp', g', d', tk', os'⟩ := s
    have k1 := F.conv_sub_int
    have k2 := F.madeHere_int
    have k3 : typeOf (.str x u) = pure (.type "str") := rfl
    obtain ⟨e1, e2⟩ := seen_hex fun c hc => (h c hc).hex
    have hk := Hid.mk (And.intro (show (numSeenOf x).length ≤ 640 by rw [e2, Array.length_toList]; exact hl) (And.intro (show (int_private% "readNumeral") 0 2 (numSeenOf x) = (int_private% "Numeral.value") ((binNum x.cps.toList : Nat) : Int) by rw [e2]; exact read_bin h hne)
      (show ((numSeenOf x).length == (numTextOf x).length) = true by rw [e1, e2]; exact beq_self_eq_true _)))
    clear e1 e2 hl hne h
    repeat (any_goals (first
      | assumption
      | ((with_reducible show wpAny _ _ ((int_private% "intFromText") _ _ _) _ _ _); exact wp_textB hk.out.1 hk.out.2.1 hk.out.2.2 (by first | assumption | exact ⟨_, rfl, hQ⟩))
      | ((with_reducible show wpAny _ _ ((int_private% "intFromText") _ _ _) _ _ _); refine (wp_textB hk.out.1 hk.out.2.1 hk.out.2.2) ?_)
      | wp_step))
    all_goals first | exact ⟨_, rfl, hQ⟩ | skip
theorem call_bin {prog : Program} {w : World} {A : Around} {E : Value → Shared → Prop} {s : Shared} {Q : Value → Shared → Prop} {x : PySem.Str} {u t : Tok} (hl : x.length ≤ 640) (h : ∀ c ∈ x.cps.toList, IsBit c) (hne : x.cps.toList ≠ [])
    (hQ : Q (.int ((binNum x.cps.toList : Nat) : Int) s.toks) { s with toks := s.toks + 1 }) : wpAny (model prog w) A (call (.type "int") [.str x u, .int 2 t]) Q E s :=
  callType_new F.called_int F.newNe_int (typeCall_int_2 _ _) (newCall_int_2 _ _) (fun obj => F.initArgs_range_2 obj _ _) F.entry_int_new (gives_bin hl h hne).meets (show (Made.int ((binNum x.cps.toList : Nat) : Int)).post _ s from ⟨rfl, hQ⟩)
end Bn
def rIntBin : List V → Hp → VK → Prop := fun xs H Q => ∃ x : Str, xs = [.str x, .int 2] ∧ x.cps.toList ≠ [] ∧ x.length ≤ 640 ∧ (∀ c ∈ x.cps.toList, Bn.IsBit c) ∧ Q (.int ((Bn.binNum x.cps.toList : Nat) : Int)) H
theorem call_int_bin {X : Cx} : CallR X (.type "int") rIntBin := by
  intro pins s σ H xs us Q I r ⟨x, e, hne, hl, hx, q⟩
  subst e
  obtain ⟨u, w', rfl, ⟨t1, rfl⟩, ⟨t2, rfl⟩⟩ := vals2 r
  exact Bn.call_bin hl hx hne ⟨.int ((Bn.binNum x.cps.toList : Nat) : Int), H, I.tok _, ⟨_, rfl⟩, q⟩
/-- int(..) of one thing, or of a text of 0 and 1 and the base 2 -/
def bInt2 : List PV → M PV
  | [.str s, .int 2] => if s.length ≤ 640 ∧ s.cps.toList ≠ [] ∧ ∀ c ∈ s.cps.toList, Bn.IsBit c then pure (.int ((Bn.binNum s.cps.toList : Nat) : Int)) else M.fail
  | xs => bInt xs
def rIntAll2 : List V → Hp → VK → Prop := fun xs H Q => rIntAll xs H Q ∨ rIntBin xs H Q
theorem call_intAll2 {X : Cx} : CallR X (.type "int") rIntAll2 := call_intAll.por call_int_bin
theorem cs_int2 {g : Gd} {W : XW} : CallS g W bInt2 rIntAll2 := by
  intro ρ st H vs xs Q S hv h
  unfold bInt2 at h
  split at h
  · rename_i s
    cases hv with
    | cons hx hr =>
      cases hr with
      | cons hy hr =>
        cases hr
        cases hx
        cases hy
        split at h
        · rename_i k
          exact .inr ⟨s, rfl, k.2.1, k.1, k.2.2, (Post.pure h S) _ (.int _)⟩
        · exact h.elim
  · exact .inl (cs_int S hv h)
end PyI

/-! PyI16: from an expression to its plain reading. -/
namespace PyI
open L2 PySem PySem.Spec PyProof.Rows

/-- the names of a body -/
structure CQ where
  N : List Str
  sc : Scope
  fnB : Str → Bool
  cod : Bool
/-- what a program's module holds, as plain things -/
structure PP where
  cl : Str → List PV → M PV
  ar : Str → Option (Nat × List PV)
  cn : Str → Option PV
  kd : Str → Option (List (Str × PV))
  fr : Str → Bool
  wf : Nat
structure XOk (P : PP) (g : Gd) (n : Nat) (q : CQ) (X : Cx) : Prop where
  hK : g.K = X.K
  hN : X.N = q.N
  nd : q.N.Nodup
  calm : X.calm = true
  scope : X.env.scope = q.sc
  kind : q.sc.kind = .function
  fn : X.fn = q.fnB
  room : Room n X.A
  rmG : q.cod = true → Room (n + 3) X.A
  cod : q.cod = true → ∃ c P, X.env.code = .ref c ∧ GxR.TabB X.base X.mg c P ∧ P ∈ g.tabs
  fr : ∀ x, P.fr x = true → X.mg x = none
  cn : ∀ x d, P.cn x = some d → ∃ u v, X.mg x = some u ∧ RelV v u ∧ ∀ ρ H, RepV g ρ H v d
  kd : ∀ x kvs, P.kd x = some kvs → X.mg x = some (.ref (g.kda x)) ∧ KdS g X x kvs
  fna : ∀ x m ds, P.ar x = some (m, ds) → X.mg x = some (.ref (g.fna x))
  cl : ∀ x m ds, P.ar x = some (m, ds) → ∃ f fd ps dvs dus, FnOk X.prog X.w X.K X.mg X.base CX0 n f fd ps (spI g m (P.cl x)) ∧ X.mg x = some (.ref f) ∧ PySem.W.keepIn X.K (.ref f) = true ∧ Binds X.K fd ps dus ∧ Vals dvs dus ∧ ∀ ρ H, RepL g ρ H dvs ds

def slot : List Str → Str → Option Nat
  | [], _ => none
  | y :: r, x => if y == x then some 0 else (slot r x).map (· + 1)
theorem slot_of : ∀ {N : List Str} {x : Str} {i : Nat}, slot N x = some i → N[i]? = some x
  | [], _, _, h => by cases h
  | y :: r, x, i, h => by
    unfold slot at h
    by_cases e : (y == x) = true
    · rw [if_pos e] at h
      cases h
      rw [eq_of_beq e]; rfl
    · rw [if_neg e] at h
      cases q : slot r x with
      | none => rw [q] at h; cases h
      | some j =>
        rw [q] at h
        cases h
        show (y :: r)[j + 1]? = some x
        rw [List.getElem?_cons_succ]
        exact slot_of q
def CQ.kind (q : CQ) (x : Str) : Option NameKind := q.sc.names.lookup x
def CQ.visB (q : CQ) (x : Str) : Bool := (q.kind x == some .local || q.kind x == some .cell || q.kind x == some .free) && !(x == ("__debug__" : Str)) && !(x == ("__classdict__" : Str))
def CQ.glB (q : CQ) (x : Str) : Bool := q.kind x == some .globalImplicit && !(x == ("__debug__" : Str)) && !(x == ("__name__" : Str))
def CQ.locB (q : CQ) (x : Str) : Bool := q.kind x == some .local || (q.kind x == some .cell && q.fnB x)
def failD : Dn := fun _ => M.fail
def failT : Tn := fun _ => M.fail
def failW : Wn := fun _ => M.fail
section
variable {X : Cx} {P : PP} {g : Gd} {W : XW} {n : Nat} {q : CQ} {e : Expr} {es : List Expr} {x : Str} {pos : Pos}
theorem s_fail : PE X e (tI g W failD) := ⟨fun _ _ _ _ _ _ ⟨_, _, _, _, _, h⟩ => h.elim⟩
theorem t_fail : PT X e (tT g W failT) := ⟨fun _ _ _ _ _ _ ⟨_, _, _, _, _, h⟩ => h.elim⟩
theorem w_fail {tg : Expr} : PI X tg e (tW g W failW) := ⟨fun _ _ _ _ _ _ ⟨_, _, _, _, _, h⟩ => h.elim⟩
theorem a_fail : PA X es (tA g W (fun _ => M.fail)) := ⟨fun _ _ _ _ _ _ _ ⟨_, _, _, _, _, h⟩ => h.elim⟩
theorem XOk.vis (O : XOk P g n q X) (h : q.visB x = true) : Vis X.env.scope x ∧ (x == ("__debug__" : Str)) = false ∧ (x == ("__classdict__" : Str)) = false := by
  unfold CQ.visB CQ.kind at h
  simp only [Bool.and_eq_true, Bool.or_eq_true, Bool.not_eq_true', beq_iff_eq] at h
  obtain ⟨⟨h1, h2⟩, h3⟩ := h
  refine ⟨?_, by simpa using h2, by simpa using h3⟩
  unfold Vis
  rw [O.scope]
  rcases h1 with (h1 | h1) | h1
  · exact .inl h1
  · exact .inr (.inl h1)
  · exact .inr (.inr h1)
theorem XOk.gl (O : XOk P g n q X) (h : q.glB x = true) : Gl X x ∧ (x == ("__debug__" : Str)) = false ∧ x ≠ "__name__" := by
  unfold CQ.glB CQ.kind at h
  simp only [Bool.and_eq_true, Bool.not_eq_true', beq_iff_eq] at h
  obtain ⟨⟨h1, h2⟩, h3⟩ := h
  refine ⟨?_, by simpa using h2, by simpa using h3⟩
  show X.env.scope.names.lookup x = _
  rw [O.scope]
  exact h1
theorem XOk.loc (O : XOk P g n q X) (h : q.locB x = true) : L2.Loc X.env.scope x ∧ (X.fn x = true ∨ X.env.scope.names.lookup x = some .local) := by
  unfold CQ.locB CQ.kind at h
  simp only [Bool.or_eq_true, Bool.and_eq_true, beq_iff_eq] at h
  unfold L2.Loc
  rw [O.scope, O.fn]
  rcases h with h | ⟨h1, h2⟩
  · exact ⟨.inl h, .inr h⟩
  · exact ⟨.inr h1, .inl h2⟩
theorem XOk.ix (O : XOk P g n q X) {i : Nat} (h : slot q.N x = some i) : X.N[i]? = some x := by rw [O.hN]; exact slot_of h
/-! ### operators -/
def opOf : Operator → Option (PV → PV → M PV)
  | .Add => some opAdd
  | .Sub => some opSub
  | .Mult => some opMul
  | .FloorDiv => some opFdiv
  | .Mod => some opMod
  | .Pow => some opPow
  | .LShift => some opShl
  | .RShift => some opShr
  | .BitAnd => some opAnd
  | .BitOr => some opOr
  | _ => none
theorem s_binOf {op : Operator} {F : PV → PV → M PV} {a b : Expr} {fa fb : Dn} (O : XOk P g n q X) (h : opOf op = some F) (ha : PE X a (tI g W fa)) (hb : PE X b (tI g W fb)) : PE X (.BinOp a op b pos) (tI g W (cBin F fa fb)) := by
  cases op <;> simp only [opOf, Option.some.injEq, reduceCtorEq] at h <;> subst h
  · exact s_bin op_addAll (opS_add O.hK) ha hb
  · exact s_bin op_sub opS_II0 ha hb
  · exact s_bin op_mul opS_II ha hb
  · exact s_bin op_mod opS_II ha hb
  · exact s_bin op_pow opS_II ha hb
  · exact s_bin op_shl opS_II ha hb
  · exact s_bin op_shr opS_II ha hb
  · exact s_bin op_or opS_II0 ha hb
  · exact s_bin op_and opS_II0 ha hb
  · exact s_bin op_fdiv opS_II ha hb
def cmpOf : CmpOp → PV → PV → M PV
  | .Eq => opEqB false
  | .NotEq => opEqB true
  | .Lt => opLt
  | .LtE => opLe
  | .Gt => opGt
  | .GtE => opGe
  | .Is => opIsN false
  | .IsNot => opIsN true
  | .In => opInB false
  | .NotIn => opInB true
theorem cmp_ok (O : XOk P g n q X) (op : CmpOp) : ∃ r, OpR X (compareOp op) r ∧ OpS g W (cmpOf op) r := by
  have hu := O.room.units
  cases op
  · exact ⟨_, op_eqP hu, opS_eq O.hK⟩
  · exact ⟨_, op_neP hu, opS_eq O.hK⟩
  · exact ⟨_, op_ltP hu, opS_cmp O.hK⟩
  · exact ⟨_, op_leP hu, opS_cmp O.hK⟩
  · exact ⟨_, op_gtP hu, opS_cmp O.hK⟩
  · exact ⟨_, op_geP hu, opS_cmp O.hK⟩
  · exact ⟨_, op_isN, opS_is⟩
  · exact ⟨_, op_notN, opS_isnot⟩
  · exact ⟨_, op_inAll hu, opS_in O.hK⟩
  · exact ⟨_, op_notInAll hu, opS_in O.hK⟩
/-! ### built-ins -/
def bltOf (x : Str) : Option (List PV → M PV) :=
  if x == "len" then some bLen else if x == "int" then some bInt2 else if x == "str" then some bStr else if x == "tuple" then some bTuple else if x == "max" then some bMax else if x == "min" then some bMin else none
theorem s_bltOf {F : List PV → M PV} {fs : Ln} {p : Pos} (O : XOk P g n q X) (h : bltOf x = some F) (hf : P.fr x = true) (hg : q.glB x = true) (ha : PA X (e :: es) (tA g W fs)) (hs : noStar (e :: es) = true) : PE X (.Call (.Name x p) (e :: es) [] pos) (tI g W (cApp F fs)) := by
  obtain ⟨g1, g2, g3⟩ := O.gl hg
  have hm := O.fr x hf
  unfold bltOf at h
  split at h
  · rename_i e1; cases h; cases eq_of_beq e1
    exact s_callB call_len (cs_len O.hK) g1 hm (by decide +kernel) ha g3 g2 hs
  split at h
  · rename_i e1; cases h; cases eq_of_beq e1
    exact s_callTy call_intAll2 cs_int2 g1 hm (by decide +kernel) ha g3 g2 hs
  split at h
  · rename_i e1; cases h; cases eq_of_beq e1
    exact s_callTy call_strAll cs_str g1 hm (by decide +kernel) ha g3 g2 hs
  split at h
  · rename_i e1; cases h; cases eq_of_beq e1
    exact s_callTy call_tuple_of (cs_tuple O.hK) g1 hm (by decide +kernel) ha g3 g2 hs
  split at h
  · rename_i e1; cases h; cases eq_of_beq e1
    exact s_callB (call_max2 O.calm) cs_max g1 hm (by decide +kernel) ha g3 g2 hs
  split at h
  · rename_i e1; cases h; cases eq_of_beq e1
    exact s_callB (call_min2 O.calm) cs_min g1 hm (by decide +kernel) ha g3 g2 hs
  · cases h
/-- .. of one list that nobody else holds -/
def bltL (x : Str) : Option (List PV → M PV) :=
  if x == "tuple" then some lTuple else if x == "all" then some lAll else if x == "any" then some lAny else none
theorem s_bltL {F : List PV → M PV} {fl : Ln} {p : Pos} (O : XOk P g n q X) (h : bltL x = some F) (hf : P.fr x = true) (hg : q.glB x = true) (ha : PE X e (tL g W fl)) (hs : starred e = false) : PE X (.Call (.Name x p) [e] [] pos) (tI g W (cApp F fl)) := by
  obtain ⟨g1, g2, g3⟩ := O.gl hg
  have hm := O.fr x hf
  unfold bltL at h
  split at h
  · rename_i e1; cases h; cases eq_of_beq e1
    exact s_callTyL call_tuple_of ls_tuple g1 hm (by decide +kernel) ha g3 g2 hs
  split at h
  · rename_i e1; cases h; cases eq_of_beq e1
    exact s_callBL (cr_all O.calm) ls_all g1 hm (by decide +kernel) ha g3 g2 hs
  split at h
  · rename_i e1; cases h; cases eq_of_beq e1
    exact s_callBL (cr_any O.calm) ls_any g1 hm (by decide +kernel) ha g3 g2 hs
  · cases h
end
end PyI

/-! PyH2: sorted of anything that reads as data. -/
namespace PyI
open L2 PySem PySem.Spec PyProof.Rows

/-- a value, its plain form, its data -/
abbrev Tr := V × PV × PyData
def rSortedD (K : PySem.W.Frag) : List V → Hp → VK → Prop := fun vs H Q => ∃ (a : Addr) (ps : List (V × PV × PyData)), vs = [V.ref a] ∧ SqL K H a (ps.map (·.1)) ∧ (∀ p ∈ ps, Dp K H p.1 p.2.2 ∧ p.2.2.depth ≤ 62) ∧ PySem.W.AllAlike (ps.map (·.2.2)) ∧ PySem.W.Sortable (ps.map (·.2.2)) ∧
  ∀ D, H D = none → Q (.ref D) (upd H D (.lst ((ps.mergeSort (PySem.W.dataLe false (·.2.2))).map (·.1))))
section
variable {X : Cx}
theorem each_of {R : Value → V × PV × PyData → Prop} : ∀ {us : List Value} {ps : List (V × PV × PyData)}, Vals (ps.map (·.1)) us → (∀ p ∈ ps, ∀ u, RelV p.1 u → R u p) → PySem.W.EachIs R us ps
  | us, [], h, _ => by cases h; exact .nil
  | us, p :: ps, h, k => by
    cases h with
    | cons a b => exact .cons (k p List.mem_cons_self _ a) (each_of b fun q hq => k q (List.mem_cons_of_mem _ hq))
theorem vals_of : ∀ {us : List Value} {ps : List (V × PV × PyData)}, PySem.W.EachIs (fun u p => RelV p.1 u) us ps → Vals (ps.map (·.1)) us
  | _, [], h => by cases h; exact .nil
  | _, _ :: _, h => by
    cases h with
    | cons a b => exact .cons a (vals_of b)
theorem cr_sortedD (hu : X.A.units + 80 < cLine) : CallR X (.builtin "sorted") (rSortedD X.K) := by
  intro pins s σ H vs us Q I r h
  obtain ⟨a, ps, rfl, hs, hp, hal, hso, q⟩ := h
  obtain ⟨its, rv, hl, hz⟩ := I.list hs
  obtain ⟨u, rfl, ru⟩ := vals1 r
  obtain rfl : u = Value.ref a := ru
  have hlen : (ps.map (·.1)).length = ps.length := by simp
  refine PySem.W.sorted_data (bs := ps) (enc := fun p : V × PV × PyData => p.2.2) (R := fun u p => RelV p.1 u) hl.isList (each_of rv fun p _ u h => h) (each_of rv fun p hpm u h => Dp.reads I p.2.2 p.1 u (hp p hpm).1 h) hal hso ?_ (fun p hpm => by have := (hp p hpm).2; omega) fun out hout e => ?_
  · rw [← hlen]; exact hz
  · have nf : H (s.heap.objs.size + 1) = none := I.hok.fresh (Nat.le_succ _)
    obtain ⟨c, hc⟩ := sortedAll_at s.heap its out.toArray
    refine ⟨.ref (s.heap.objs.size + 1), upd H (s.heap.objs.size + 1) (.lst ((ps.mergeSort (PySem.W.dataLe false (·.2.2))).map (·.1))), I.laid (t' := s.toks) (fun b o e => sortedAll_old e) (Nat.le_succ _) ⟨?_, out, c, vals_of e, hc⟩, rfl, q _ nf⟩
    rw [List.length_map, List.length_mergeSort, ← hlen]
    exact hz
end
/-! ### the plain reading -/
def alikesB (ps : List PyData) : Bool := ps.all fun d => ps.all fun e => PySem.W.alike d e
def tupB : PyData → Bool
  | .tuple (_ :: _) => true
  | _ => false
def othB : PyData → Bool
  | .none => false
  | .tuple _ => false
  | _ => true
def sortableB (ps : List PyData) : Bool := ps.all tupB || ps.all othB
def sortP (xs : List PV) : M (List PV) := fun st => match pdsOf xs with
  | some ps => if alikesB ps && sortableB ps && ps.all (fun d => decide (d.depth ≤ 62)) then .ok (((xs.zip ps).mergeSort (PySem.W.dataLe false (·.2))).map (·.1)) st else .no
  | none => .no
def lstItems (d : PV) : M (List PV) := fun st => match d with
  | .obj n => (match st[n]? with
    | some (.lst xs) => .ok xs st
    | _ => .no)
  | .ilst xs => .ok xs st
  | _ => .no
def cSorted (f : Dn) : Ln := fun env => do
  let d ← f env
  let xs ← lstItems d
  sortP xs
theorem alikes_of {ps : List PyData} (h : alikesB ps = true) : PySem.W.AllAlike ps := fun d hd e he => List.all_eq_true.mp (List.all_eq_true.mp h d hd) e he
theorem sortable_of {ps : List PyData} (h : sortableB ps = true) : PySem.W.Sortable ps := by
  unfold sortableB at h
  rw [Bool.or_eq_true] at h
  rcases h with h | h
  · refine .inl fun d hd => ?_
    have := List.all_eq_true.mp h d hd
    cases d with
    | tuple xs => cases xs with
      | nil => cases this
      | cons x r => exact ⟨x, r, rfl⟩
    | _ => cases this
  · refine .inr fun d hd => ?_
    have := List.all_eq_true.mp h d hd
    have no : ∀ e : PyData, othB e = true → e ≠ .none ∧ ∀ xs, e ≠ .tuple xs := fun e he => ⟨fun z => by rw [z] at he; exact Bool.noConfusion he, fun xs z => by rw [z] at he; exact Bool.noConfusion he⟩
    exact no d this
section
variable {X : Cx} {g : Gd} {W : XW} {ρ : Rho} {H : Hp}
theorem triples : ∀ {vs : List V} {xs : List PV} {ps : List PyData}, RepL g ρ H vs xs → pdsOf xs = some ps → ∃ ts : List Tr, ts.map (·.1) = vs ∧ ts.map (·.2) = xs.zip ps ∧ ∀ t ∈ ts, RepV g ρ H t.1 t.2.1 ∧ Dp g.K H t.1 t.2.2
  | _, [], ps, .nil, _ => ⟨[], rfl, by simp, fun t ht => by cases ht⟩
  | v :: vs, x :: xs, ps, .cons a b, h => by
    rw [pdsOf] at h
    cases q1 : pdOf x with
    | none => rw [q1] at h; cases h
    | some d =>
      cases q2 : pdsOf xs with
      | none => rw [q1, q2] at h; cases h
      | some ds =>
        rw [q1, q2] at h
        cases h
        obtain ⟨ts, h1, h2, h3⟩ := triples b q2
        refine ⟨(v, x, d) :: ts, by simp [h1], by simp [h2], fun t ht => ?_⟩
        rcases List.mem_cons.mp ht with z | z
        · rw [z]; exact ⟨a, (dp_of a q1).1⟩
        · exact h3 t z
theorem reps_of : ∀ (ts : List Tr), (∀ t ∈ ts, RepV g ρ H t.1 t.2.1) → RepL g ρ H (ts.map (·.1)) (ts.map (·.2.1))
  | [], _ => .nil
  | t :: ts, h => .cons (h t List.mem_cons_self) (reps_of ts fun u hu => h u (List.mem_cons_of_mem _ hu))
theorem sorted_of {vs : List V} {xs : List PV} {ps : List PyData} {a : Addr} {Q : VK} (hr : RepL g ρ H vs xs) (hp : pdsOf xs = some ps) (hs : SqL g.K H a vs) (hb : (alikesB ps && sortableB ps && ps.all (fun d => decide (d.depth ≤ 62))) = true)
    (hl : xs.length = ps.length)
    (h : ∀ D us, H D = none → RepL g ρ H us (((xs.zip ps).mergeSort (PySem.W.dataLe false (·.2))).map (·.1)) → Q (.ref D) (upd H D (.lst us))) : rSortedD g.K [.ref a] H Q := by
  obtain ⟨ts, t1, t2, t3⟩ := triples hr hp
  simp only [Bool.and_eq_true] at hb
  obtain ⟨⟨b1, b2⟩, b3⟩ := hb
  have e3 : ts.map (·.2.2) = ps := by
    have : (ts.map (·.2)).map (·.2) = ps := by rw [t2, List.map_snd_zip (by omega)]
    rw [← this, List.map_map]
    rfl
  refine ⟨a, ts, rfl, by rw [t1]; exact hs, fun t ht => ⟨(t3 t ht).2, ?_⟩, by rw [e3]; exact alikes_of b1, by rw [e3]; exact sortable_of b2, fun D hD => h D _ hD ?_⟩
  · have hm : t.2.2 ∈ ps := by rw [← e3]; exact List.mem_map.mpr ⟨t, ht, rfl⟩
    exact of_decide_eq_true (List.all_eq_true.mp b3 _ hm)
  · have e : ((xs.zip ps).mergeSort (PySem.W.dataLe false (·.2))).map (·.1) = (ts.mergeSort (PySem.W.dataLe false (·.2.2))).map (·.2.1) := by
      rw [← t2, ← List.map_mergeSort (r := PySem.W.dataLe false (fun t : Tr => t.2.2)) (s := PySem.W.dataLe false (fun t : PV × PyData => t.2)) (f := fun t : Tr => t.2) (fun a _ b _ => rfl), List.map_map]
      rfl
    rw [e]
    exact reps_of _ fun t ht => (t3 t (List.mem_mergeSort.mp ht)).1
end
section
variable {X : Cx} {g : Gd} {W : XW} {a : Expr} {f : Dn} {p pos : Pos}
theorem pds_len : ∀ {xs : List PV} {ps : List PyData}, pdsOf xs = some ps → xs.length = ps.length
  | [], ps, h => by cases h; rfl
  | x :: xs, ps, h => by
    rw [pdsOf] at h
    cases q1 : pdOf x with
    | none => rw [q1] at h; cases h
    | some d =>
      cases q2 : pdsOf xs with
      | none => rw [q1, q2] at h; cases h
      | some ds =>
        rw [q1, q2] at h
        cases h
        rw [List.length_cons, List.length_cons, pds_len q2]
theorem sorted_post {ρ : Rho} {H : Hp} {st : Store} {a : Addr} {vs : List V} {xs : List PV} {Q : VK} (S : Sim g ρ st H) (hr : RepL g ρ H vs xs) (hs : SqL g.K H a vs)
    (h : Post g W ρ H (sortP xs st) fun ys _ ρ' H' => ∀ b us, b ∉ ρ' → H b = none → H' b = some (.lst us) → RepL g ρ' H' us ys → Q (.ref b) H') : rSortedD g.K [.ref a] H Q := by
  unfold sortP at h
  cases hp : pdsOf xs with
  | none => rw [hp] at h; exact h.elim
  | some ps =>
    rw [hp] at h
    by_cases hb : (alikesB ps && sortableB ps && ps.all (fun d => decide (d.depth ≤ 62))) = true
    · simp only [hb, if_true] at h
      refine sorted_of hr hp hs hb (pds_len hp) fun D us hD hu => ?_
      exact h ρ _ (S.extFresh hD (.lst _)) (S.fresh hD _) D us (S.notin_none hD) hD upd_same (hu.ext S (S.extFresh hD _))
    · simp only [hb] at h
      exact h.elim
theorem s_sorted (hK : g.K = X.K) (hu : X.A.units + 80 < cLine) (hg : Gl X "sorted") (hm : X.mg "sorted" = none) (ha : PE X a (tI g W f)) (hs : starred a = false) : PE X (.Call (.Name "sorted" p) [a] [] pos) (tL g W (cSorted f)) :=
  (pe_callB (cr_sortedD hu) hg hm (by decide +kernel) (pa_cons ha pa_nil (star_plain hs _ _)) (by decide) (by decide) (star_plain hs _ _) rfl).pimp fun σ H Q ⟨ρ, env, st, E, S, h⟩ => ⟨ρ, env, st, E, S, (Post.bind h).mono fun d st1 ρ1 H1 x1 S1 h1 v hv => by
    have out : ∀ (xs : List PV) (b : Addr) (vs : List V), lstItems d st1 = .ok xs st1 → RepL g ρ1 H1 vs xs → SqL g.K H1 b vs → v = .ref b → rSortedD X.K [v] H1 Q := fun xs b vs e hr hq hv' => by
      subst hv'
      rw [← hK]
      have h2 : Post g W ρ1 H1 ((lstItems d >>= sortP) st1) _ := h1
      rw [bind_ok e] at h2
      exact sorted_post S1 hr hq (h2.mono fun ys st2 ρ2 H2 x2 S2 h3 b us q1 q2 q3 q4 => h3 b us q1 (x1.none q2) q3 q4)
    cases hv with
    | ilst hq hr => exact out _ _ _ rfl hr hq.sq rfl
    | @obj b n hn =>
      cases hst : st1[n]? with
      | none =>
        have h2 : Post g W ρ1 H1 ((lstItems (.obj n) >>= sortP) st1) _ := h1
        rw [bind_no (show lstItems (.obj n) st1 = .no by unfold lstItems; simp only [hst])] at h2
        exact h2.elim
      | some ob =>
        cases ob with
        | lst xs =>
          obtain ⟨u, e1, r⟩ := S1.at_ n b _ hn hst
          cases u <;> first | exact r.elim | exact out xs b _ (by unfold lstItems; simp only [hst]) r (.inl (.inl e1)) rfl
        | _ =>
          have h2 : Post g W ρ1 H1 ((lstItems (.obj n) >>= sortP) st1) _ := h1
          rw [bind_no (show lstItems (.obj n) st1 = .no by unfold lstItems; simp only [hst])] at h2
          exact h2.elim
    | _ => exact h1.elim⟩
end
end PyI

/-! PyI17: the steps of the reading, each with its proof. -/
namespace PyI
open L2 PySem PySem.Spec PyProof.Rows

structure Cmp where
  E : CQ → Expr → Dn
  T : CQ → Expr → Tn
  L : CQ → Expr → Option Ln
  W : CQ → Expr → Expr → Wn
structure Sound (P : PP) (g : Gd) (n : Nat) (c : Cmp) : Prop where
  E : ∀ {q X} {W : XW}, XOk P g n q X → ∀ e, PE X e (tI g W (c.E q e))
  T : ∀ {q X} {W : XW}, XOk P g n q X → ∀ e, PT X e (tT g W (c.T q e))
  L : ∀ {q X} {W : XW}, XOk P g n q X → ∀ e fl, c.L q e = some fl → PE X e (tL g W fl)
  W : ∀ {q X} {W : XW}, XOk P g n q X → ∀ tg e, PI X tg e (tW g W (c.W q tg e))

/-! ### targets -/
def compGs (f : Expr → Option Tg) : List Expr → Option (List Tg)
  | [] => some []
  | e :: es => match f e, compGs f es with
    | some t, some ts => some (t :: ts)
    | _, _ => none
def compG : Nat → CQ → Expr → Option Tg
  | 0, _, _ => none
  | n + 1, q, e => match e with
    | .Name x _ => if q.locB x then (slot q.N x).map .name else none
    | .Tuple es _ _ => if noStar es then (compGs (compG n q) es).map .tup else none
    | _ => none
section
variable {X : Cx} {P : PP} {g : Gd} {W : XW} {n : Nat} {q : CQ} {e a b o : Expr} {es : List Expr} {x : Str} {pos : Pos} {c : Cmp}
theorem gs_len {f : Expr → Option Tg} : ∀ {es : List Expr} {ts : List Tg}, compGs f es = some ts → es.length = ts.length
  | [], _, h => by cases h; rfl
  | e :: es, ts, h => by
    unfold compGs at h
    split at h
    · rename_i t ts' _ e2
      cases h
      rw [List.length_cons, List.length_cons, gs_len e2]
    · cases h
theorem gs_ok {f : Expr → Option Tg} (hf : ∀ e t, f e = some t → PG X e (tG g W t)) : ∀ {es : List Expr} {ts : List Tg}, compGs f es = some ts → noStar es = true → PGs X es (tGs g W ts)
  | [], _, h, _ => by cases h; exact sgs_nil
  | e :: es, ts, h, hs => by
    have h' : (!starred e) = true ∧ noStar es = true := by simpa [noStar] using hs
    unfold compGs at h
    split at h
    · rename_i t ts' e1 e2
      cases h
      exact sgs_cons (hf e t e1) (gs_ok hf e2 h'.2) (by simpa using h'.1)
    · cases h
theorem g_ok (O : XOk P g n q X) : ∀ (k : Nat) {e : Expr} {t : Tg}, compG k q e = some t → PG X e (tG g W t)
  | 0, e, t, h => by cases h
  | k + 1, e, t, h => by
    unfold compG at h
    split at h
    · rename_i x p
      by_cases hl : q.locB x = true
      · rw [if_pos hl] at h
        cases hs : slot q.N x with
        | none => rw [hs] at h; cases h
        | some i =>
          rw [hs] at h
          cases h
          obtain ⟨l1, l2⟩ := O.loc hl
          exact sg_name (by rw [O.hN]; exact O.nd) (O.ix hs) l1 l2
      · rw [if_neg hl] at h; cases h
    · rename_i es kk p
      by_cases hs : noStar es = true
      · rw [if_pos hs] at h
        cases hq : compGs (compG k q) es with
        | none => rw [hq] at h; cases h
        | some ts =>
          rw [hq] at h
          cases h
          exact sg_tup O.hK O.calm (gs_ok (fun e t h => g_ok O k h) hq hs) (gs_len hq) hs
      · rw [if_neg hs] at h; cases h
    · cases h

/-! ### argument lists -/
def stepA (c : Cmp) (q : CQ) (es : List Expr) : Ln := if noStar es then cArgs (es.map (c.E q)) else fun _ => M.fail
theorem args_ok (hc : Sound P g n c) (O : XOk P g n q X) : ∀ (es : List Expr), noStar es = true → PA X es (tA g W (cArgs (es.map (c.E q))))
  | [], _ => s_nil
  | e :: es, hs => by
    have h' : (!starred e) = true ∧ noStar es = true := by simpa [noStar] using hs
    exact s_cons (hc.E O e) (args_ok hc O es h'.2) (by simpa using h'.1)
theorem a_ok (hc : Sound P g n c) (O : XOk P g n q X) (es : List Expr) : PA X es (tA g W (stepA c q es)) := by
  unfold stepA
  by_cases h : noStar es = true
  · rw [if_pos h]; exact args_ok hc O es h
  · rw [if_neg h]; exact a_fail
/-! ### comprehensions -/
def ownOf (N : List Str) (scope : Scope) : List (Str × Nat) := scope.names.filterMap fun p => if p.2 == .local || p.2 == .cell then (slot N p.1).map fun i => (p.1, i) else none
def CQ.blk (q : CQ) (scope : Scope) : CQ := { N := q.N, sc := relS scope q.sc, fnB := fun x => scope.names.lookup x == some .cell, cod := q.cod }
def ifsT (c : Cmp) (q : CQ) : List Expr → Tn
  | [] => cTrue
  | [t] => c.T q t
  | _ => failT
def notSet : Expr → Bool
  | .Set _ _ _ => false
  | _ => true
theorem fold_ok (h : notSet e = true) {env : Env} : ∀ x, foldedSetIterable e env x = pure x := by
  intro x
  cases e <;> first | rfl | exact absurd h (by simp [notSet])
def stepLc (c : Cmp) (q : CQ) (elt tg iter : Expr) (ifs : List Expr) (scope : Scope) : Option Ln :=
  let own := ownOf q.N scope
  match compG 9 (q.blk scope) tg with
  | some t => if (scope.kind == .function && blkC q.N q.sc scope own && notSet iter && t.slots.all fun j => (own.map (·.2)).contains j) then some (cCompN (c.W q tg iter) t (ifsT c (q.blk scope) ifs) (c.E (q.blk scope) elt) (own.map (·.2))) else none
  | none => none
theorem XOk.blk (O : XOk P g n q X) (s : Shared) (H : Hp) (scope : Scope) (C : Addr) (cl : List (Str × Addr)) (fp : List Addr) (hk : scope.kind = .function) : XOk P g n (q.blk scope) (X.blk s H scope (compEnvC scope cl C X.env) fp) where
  hK := O.hK
  hN := O.hN
  nd := O.nd
  calm := O.calm
  scope := by show relS scope X.env.scope = relS scope q.sc; rw [O.scope]
  kind := hk
  fn := rfl
  room := O.room
  rmG := O.rmG
  cod := O.cod
  fr := O.fr
  cn := O.cn
  kd := fun x kvs h => ⟨(O.kd x kvs h).1, ⟨(O.kd x kvs h).2.ex, (O.kd x kvs h).2.at_⟩⟩
  fna := O.fna
  cl := O.cl
theorem ifs_ok (hc : Sound P g n c) (O : XOk P g n q X) : ∀ (es : List Expr), PTs X es (tT g W (ifsT c q es))
  | [] => pts0
  | [t] => pts1 (hc.T O t)
  | _ :: _ :: _ => ⟨fun _ _ _ _ _ _ ⟨_, _, _, _, _, h⟩ => h.elim⟩
theorem lc_ok {elt tg iter : Expr} {ifs : List Expr} {scope : Scope} {fl : Ln} (hc : Sound P g n c) (O : XOk P g n q X) (h : stepLc c q elt tg iter ifs scope = some fl) : PE X (.ListComp elt [⟨tg, iter, ifs, 0⟩] scope pos) (tL g W fl) := by
  unfold stepLc at h
  simp only at h
  split at h
  · rename_i t ht
    split at h
    · rename_i hb
      cases h
      simp only [Bool.and_eq_true, beq_iff_eq, List.all_eq_true, List.contains_iff_mem] at hb
      obtain ⟨⟨⟨h1, h2⟩, h3⟩, h4⟩ := hb
      exact s_comp O.calm (by rw [O.hN]; exact O.nd) (hc.W O tg iter) (blkOk_by (by rw [O.hN, O.scope]; exact h2)) h4 (fun s H C cl fp => g_ok (O.blk s H scope C cl fp h1) 9 ht)
        (fun s H C cl fp => ifs_ok hc (O.blk s H scope C cl fp h1) ifs) (fun s H C cl fp => hc.E (O.blk s H scope C cl fp h1) elt) (fold_ok h3)
    · cases h
  · cases h
/-! ### lists that nobody else holds -/
def notSuper : Expr → Bool
  | .Call _ [] [] _ => false
  | _ => true
theorem base_ok {name : Str} (h : notSuper o = true) (env : Env) (w : Sem Value) : attributeBase o name env w = w := by
  cases o with
  | Call f args kws p =>
    cases args with
    | nil => cases kws with
      | nil => exact absurd h (by simp [notSuper])
      | cons _ _ => cases f <;> rfl
    | cons _ _ => cases f <;> rfl
  | _ => rfl
def stepL (P : PP) (c : Cmp) (q : CQ) (e : Expr) : Option Ln := match e with
  | .Call (.Name x _) [a] [] _ => if x == "sorted" && P.fr x && q.glB x && !starred a then some (cSorted (c.E q a)) else none
  | .List es _ => if noStar es then some (cLst (cArgs (es.map (c.E q)))) else none
  | .ListComp elt [⟨tg, iter, ifs, 0⟩] scope _ => stepLc c q elt tg iter ifs scope
  | .BinOp a .Add b _ => match c.L q a, c.L q b with
    | some fa, some fb => some (cCat fa fb)
    | _, _ => none
  | .Call (.Attribute o name apos) [a] [] pos => if name == "split" && notSuper o && apos.endLine == pos.line && !starred a then some (cSplit (c.E q o) (c.E q a)) else none
  | _ => none
theorem l_ok (hc : Sound P g n c) (O : XOk P g n q X) (e : Expr) (fl : Ln) (h : stepL P c q e = some fl) : PE X e (tL g W fl) := by
  unfold stepL at h
  split at h
  · split at h
    · rename_i hb
      cases h
      simp only [Bool.and_eq_true, Bool.not_eq_true'] at hb
      obtain ⟨⟨⟨h1, h2⟩, h3⟩, h4⟩ := hb
      cases eq_of_beq h1
      exact s_sorted O.hK (by have := O.room.un; omega) (O.gl h3).1 (O.fr _ h2) (hc.E O _) h4
    · cases h
  · rename_i es p
    split at h
    · rename_i hs
      cases h
      exact s_lst (args_ok hc O es hs)
    · cases h
  · exact lc_ok hc O h
  · rename_i a b p
    split at h
    · rename_i fa fb e1 e2
      cases h
      exact s_cat (hc.L O a fa e1) (hc.L O b fb e2)
    · cases h
  · rename_i o name apos a p
    split at h
    · rename_i hb
      cases h
      simp only [Bool.and_eq_true, Bool.not_eq_true', beq_iff_eq] at hb
      obtain ⟨⟨⟨h1, h2⟩, h3⟩, h4⟩ := hb
      subst h1
      exact s_split (hc.E O o) (hc.E O a) h4 (base_ok h2 _ _) (by simpa using h3)
    · cases h
  · cases h
/-! ### what is walked -/
def isTup : Expr → Bool
  | .Tuple _ _ _ => true
  | _ => false
def wGen (c : Cmp) (q : CQ) (e : Expr) : Wn := match c.L q e with
  | some fl => wLst fl
  | none => wVal (c.E q e)
theorem wGen_ok {tg : Expr} (hc : Sound P g n c) (O : XOk P g n q X) : PI X tg e (tW g W (wGen c q e)) := by
  unfold wGen
  split
  · rename_i fl h
    exact s_wLst (hc.L O e fl h)
  · exact s_wVal O.hK (hc.E O e)
def stepW (P : PP) (c : Cmp) (q : CQ) (tg e : Expr) : Wn := match e with
  | .Call (.Name x _) [a] [] _ =>
    if P.fr x && q.glB x && !starred a then
      (if x == "range" then wRange1 (c.E q a)
      else if x == "enumerate" && isTup tg then (match c.L q a with
        | some fl => wEnumL fl
        | none => wEnum (c.E q a))
      else wGen c q e)
    else wGen c q e
  | .Call (.Name x _) [a, b] [] _ =>
    if P.fr x && q.glB x && !starred a && !starred b then
      (if x == "range" then wRange2 (c.E q a) (c.E q b)
      else if x == "zip" && isTup tg then wZip (c.E q a) (c.E q b)
      else wGen c q e)
    else wGen c q e
  | e => wGen c q e
theorem w_ok (hc : Sound P g n c) (O : XOk P g n q X) (tg e : Expr) : PI X tg e (tW g W (stepW P c q tg e)) := by
  unfold stepW
  split
  · rename_i x p a p2
    split
    · rename_i hb
      simp only [Bool.and_eq_true, Bool.not_eq_true'] at hb
      obtain ⟨⟨h1, h2⟩, h3⟩ := hb
      obtain ⟨g1, g2, g3⟩ := O.gl h2
      have hm := O.fr x h1
      split
      · rename_i e1
        cases eq_of_beq e1
        exact s_wRange1 g1 hm (hc.E O a) h3
      · split
        · rename_i e1
          rw [Bool.and_eq_true] at e1
          obtain ⟨e1, e2⟩ := e1
          cases eq_of_beq e1
          cases tg <;> first | (simp [isTup] at e2; done) | skip
          split
          · rename_i fl hl
            exact s_wEnumL g1 hm (hc.L O a fl hl) h3
          · exact s_wEnum O.hK g1 hm (hc.E O a) h3
        · exact wGen_ok hc O
    · exact wGen_ok hc O
  · rename_i x p a b p2
    split
    · rename_i hb
      simp only [Bool.and_eq_true, Bool.not_eq_true'] at hb
      obtain ⟨⟨⟨h1, h2⟩, h3⟩, h4⟩ := hb
      obtain ⟨g1, g2, g3⟩ := O.gl h2
      have hm := O.fr x h1
      split
      · rename_i e1
        cases eq_of_beq e1
        exact s_wRange2 g1 hm (hc.E O a) (hc.E O b) h3 h4
      · split
        · rename_i e1
          rw [Bool.and_eq_true] at e1
          obtain ⟨e1, e2⟩ := e1
          cases eq_of_beq e1
          cases tg <;> first | (simp [isTup] at e2; done) | skip
          exact s_wZip O.hK g1 hm (hc.E O a) (hc.E O b) h3 h4
        · exact wGen_ok hc O
    · exact wGen_ok hc O
  · exact wGen_ok hc O
end
end PyI

/-! PyI18: calls, methods, expressions, tests; the whole. -/
namespace PyI
open L2 PySem PySem.Spec PyProof.Rows

def tyOf (x : Str) : Option String :=
  if x == "int" then some "int" else if x == "bool" then some "bool" else if x == "str" then some "str" else if x == "tuple" then some "tuple" else if x == "list" then some "list" else if x == "dict" then some "dict" else none
section
variable {X : Cx} {P : PP} {g : Gd} {W : XW} {n : Nat} {q : CQ} {e a b o : Expr} {es : List Expr} {x : Str} {pos : Pos} {c : Cmp}
theorem ty_ok {T : String} {p : Pos} (O : XOk P g n q X) (h : tyOf x = some T) (hf : P.fr x = true) (hg : q.glB x = true) : PE X (.Name x p) (tC (.ty T)) ∧ T ∈ tyList := by
  obtain ⟨g1, g2, g3⟩ := O.gl hg
  have hm := O.fr x hf
  unfold tyOf at h
  split at h
  · rename_i e1; cases h; cases eq_of_beq e1
    exact ⟨pe_bltn g1 hm (show bootBuiltins "int" = some (.type "int") by decide +kernel) rfl g3 g2, by decide⟩
  split at h
  · rename_i e1; cases h; cases eq_of_beq e1
    exact ⟨pe_bltn g1 hm (show bootBuiltins "bool" = some (.type "bool") by decide +kernel) rfl g3 g2, by decide⟩
  split at h
  · rename_i e1; cases h; cases eq_of_beq e1
    exact ⟨pe_bltn g1 hm (show bootBuiltins "str" = some (.type "str") by decide +kernel) rfl g3 g2, by decide⟩
  split at h
  · rename_i e1; cases h; cases eq_of_beq e1
    exact ⟨pe_bltn g1 hm (show bootBuiltins "tuple" = some (.type "tuple") by decide +kernel) rfl g3 g2, by decide⟩
  split at h
  · rename_i e1; cases h; cases eq_of_beq e1
    exact ⟨pe_bltn g1 hm (show bootBuiltins "list" = some (.type "list") by decide +kernel) rfl g3 g2, by decide⟩
  split at h
  · rename_i e1; cases h; cases eq_of_beq e1
    exact ⟨pe_bltn g1 hm (show bootBuiltins "dict" = some (.type "dict") by decide +kernel) rfl g3 g2, by decide⟩
  · cases h
/-! ### calls by name -/
def genC (scope : Scope) (x : Str) : Bool :=
  scope.kind == .function && !scope.isCoroutine && (scope.names.all fun y => !(y.2 == .cell) && !(y.2 == .free)) && scope.names.lookup (".0" : Str) == some .local && scope.names.lookup x == some .local && !(x == ("__debug__" : Str))
theorem gen_ok {scope : Scope} {env : Env} (h : genC scope x = true) : GxR.GenS env scope x ∧ (x == ("__debug__" : Str)) = false := by
  unfold genC at h
  simp only [Bool.and_eq_true, Bool.not_eq_true', beq_iff_eq, List.all_eq_true] at h
  obtain ⟨⟨⟨⟨⟨h1, h2⟩, h3⟩, h4⟩, h5⟩, h6⟩ := h
  refine ⟨⟨h1, h2, fun y hy => ?_, h4, h5, fun y hy e => ?_⟩, by simpa using h6⟩
  · have := (h3 y hy).1
    simpa using this
  · have := (h3 y hy).2
    exact absurd e (by simpa using this)
def sgIn (k : Str) : Nat → Bool := fun c => decide (c ∈ k.cps.toList)
def sgNot (k : Str) : Nat → Bool := fun c => !decide (c ∈ k.cps.toList)
def sgEq (k : Str) : Nat → Bool := fun c => [c] == k.cps.toList
def sgNe (k : Str) : Nat → Bool := fun c => [c] != k.cps.toList
/-- the test of a sign: in, not in -/
def signOf (op : CmpOp) (k : Str) : Option (Nat → Bool) := match op with
  | .In => some (sgIn k)
  | .NotIn => some (sgNot k)
  | .Eq => some (sgEq k)
  | .NotEq => some (sgNe k)
  | _ => none
theorem sign_ok {prog : Program} {w : World} {scope : Scope} {k : Str} {j : Nat} {p1 p2 p3 : Pos} {op : CmpOp} {pb : Nat → Bool} (h : signOf op k = some pb) (hk : scope.kind = .function) (hl : scope.names.lookup x = some .local) (hd : (x == ("__debug__" : Str)) = false) :
    GxR.EltP prog w scope x (.Compare (.Name x p1) [op] [.Constant (.str k) j p2] p3) pb := by
  cases op <;> simp only [signOf, Option.some.injEq, reduceCtorEq] at h <;> subst h
  · exact GxR.elt_eq hk hl hd
  · exact GxR.elt_ne hk hl hd
  · exact elt_in hk hl hd
  · exact elt_notIn hk hl hd
def notLS : Expr → Bool
  | .Set _ _ _ => false
  | .List _ _ => false
  | _ => true
theorem gfold_ok (h : notLS e = true) {env : Env} : ∀ x, genFold e env x = pure x := by
  intro x
  cases e <;> first | rfl | exact absurd h (by simp [notLS])
/-- any, all of a text's signs -/
def stepSigns (c : Cmp) (q : CQ) (all : Bool) (arg : Expr) : Dn := match arg with
  | .GeneratorExp (.Compare (.Name y _) [op] [.Constant (.str k) _ _] _) [⟨.Name x _, iter, [], 0⟩] scope _ =>
    if y == x && genC scope x && notLS iter && q.cod then (match signOf op k with
      | some pb => cSigns all pb (c.E q iter)
      | none => failD) else failD
  | _ => failD
theorem signs_ok {p : Pos} {all : Bool} {f : Str} (hf : f = if all then "all" else "any") (hc : Sound P g n c) (O : XOk P g n q X) (h1 : P.fr f = true) (h2 : q.glB f = true) : PE X (.Call (.Name f p) [a] [] pos) (tI g W (stepSigns c q all a)) := by
  unfold stepSigns
  split
  · rename_i y p1 op k j p2 p3 x p4 iter scope p5
    split
    · rename_i hb
      simp only [Bool.and_eq_true] at hb
      obtain ⟨⟨⟨e1, e2⟩, e3⟩, e4⟩ := hb
      cases eq_of_beq e1
      obtain ⟨G, hd⟩ := gen_ok (env := X.env) e2
      obtain ⟨g1, _, _⟩ := O.gl h2
      have hm := O.fr f h1
      split
      · rename_i pb hp
        have el := sign_ok (prog := X.prog) (w := X.w) (j := j) (p1 := p1) (p2 := p2) (p3 := p3) hp G.kind G.loc hd
        obtain ⟨cc, cP, t1, t2, t3⟩ := O.cod e4
        subst hf
        cases all with
        | true => exact s_allS O.room g1 hm t3 t2 t1 G (hc.E O iter) el (gfold_ok e3)
        | false => exact s_anyS O.room g1 hm t3 t2 t1 G (hc.E O iter) el (gfold_ok e3)
      · exact s_fail
    · exact s_fail
  · exact s_fail
/-! ### any, all of anything -/
def CQ.gblk (q : CQ) (scope : Scope) : CQ := { N := q.N, sc := scope, fnB := fun x => scope.names.lookup x == some .cell, cod := false }
theorem XOk.gblk (O : XOk P g n q X) (hcod : q.cod = true) (s : Shared) (H : Hp) (scope : Scope) (C : Addr) (cl : List (Str × Addr)) (fp : List Addr) (code : Value) (pn : List (Addr × Obj)) (hk : scope.kind = .function) :
    XOk P g n (q.gblk scope) (PyI.gblk X s H scope (gCe X scope cl C code) fp (gAr X (gCe X scope cl C code)) pn) where
  hK := O.hK
  hN := O.hN
  nd := O.nd
  calm := O.calm
  scope := rfl
  kind := hk
  fn := rfl
  room := (((O.rmG hcod).in1).in1).deeper _
  rmG := fun h => nomatch (show false = true from h)
  cod := fun h => nomatch (show false = true from h)
  fr := O.fr
  cn := O.cn
  kd := fun x kvs h => ⟨(O.kd x kvs h).1, ⟨(O.kd x kvs h).2.ex, (O.kd x kvs h).2.at_⟩⟩
  fna := O.fna
  cl := O.cl
def stepGx (c : Cmp) (q : CQ) (all : Bool) (arg : Expr) : Dn := match arg with
  | .GeneratorExp elt [⟨tg, iter, ifs, 0⟩] scope _ =>
    let own := ownOf q.N scope
    (match compG 9 (q.gblk scope) tg with
    | some t => if (scope.kind == .function && !scope.isCoroutine && (scope.names.all fun y => !(y.2 == .cell)) && scope.names.lookup (".0" : Str) == some .local && blkC q.N q.sc scope own && notLS iter && q.cod && t.slots.all fun j => (own.map (·.2)).contains j) then
        cGx (!all) (c.W q tg iter) t (ifsT c (q.gblk scope) ifs) (c.E (q.gblk scope) elt) (own.map (·.2)) else failD
    | none => failD)
  | _ => failD
theorem gx_ok {p : Pos} {all : Bool} {f : Str} (hf : f = if all then "all" else "any") (hc : Sound P g n c) (O : XOk P g n q X) (h1 : P.fr f = true) (h2 : q.glB f = true) : PE X (.Call (.Name f p) [a] [] pos) (tI g W (stepGx c q all a)) := by
  unfold stepGx
  split
  · rename_i elt tg iter ifs scope p5
    simp only
    split
    · rename_i t ht
      split
      · rename_i hb
        simp only [Bool.and_eq_true, beq_iff_eq, List.all_eq_true, List.contains_iff_mem, Bool.not_eq_true'] at hb
        obtain ⟨⟨⟨⟨⟨⟨⟨b1, b2⟩, b3⟩, b4⟩, b5⟩, b6⟩, b7⟩, b8⟩ := hb
        obtain ⟨g1, _, _⟩ := O.gl h2
        have hm := O.fr f h1
        obtain ⟨cc, cP, t1, t2, t3⟩ := O.cod b7
        have hcell : ∀ y ∈ scope.names, y.2 ≠ .cell := fun y hy e => by
          have := b3 y hy
          rw [e] at this
          exact absurd this (by decide)
        have ok : BlkOk X.N X.env.scope scope (ownOf q.N scope) := blkOk_by (by rw [O.hN, O.scope]; exact b5)
        subst hf
        cases all with
        | true => exact (pe_allGx (own := ownOf q.N scope) g1 hm (by decide +kernel) (O.rmG b7) O.calm (by rw [O.hN]; exact O.nd) t2 t1 ok b2 hcell b4 (hc.W O tg iter) (fun s H C cl fp code pn => g_ok (O.gblk b7 s H scope C cl fp code pn b1) 9 ht)
            (fun s H C cl fp code pn => ifs_ok hc (O.gblk b7 s H scope C cl fp code pn b1) ifs) (fun s H C cl fp code pn => hc.E (O.gblk b7 s H scope C cl fp code pn b1) elt) (gfold_ok b6) (star_plain rfl _ _)).pimp fun _ _ _ h => tGx_of t3 b8 h
        | false => exact (pe_anyGx (own := ownOf q.N scope) g1 hm (O.rmG b7) O.calm (by rw [O.hN]; exact O.nd) t2 t1 ok b2 hcell b4 (hc.W O tg iter) (fun s H C cl fp code pn => g_ok (O.gblk b7 s H scope C cl fp code pn b1) 9 ht)
            (fun s H C cl fp code pn => ifs_ok hc (O.gblk b7 s H scope C cl fp code pn b1) ifs) (fun s H C cl fp code pn => hc.E (O.gblk b7 s H scope C cl fp code pn b1) elt) (gfold_ok b6) (star_plain rfl _ _)).pimp fun _ _ _ h => tGx_of t3 b8 h
      · exact s_fail
    · exact s_fail
  · exact s_fail
/-- of two clauses -/
def stepGx2 (c : Cmp) (q : CQ) (all : Bool) (arg : Expr) : Dn := match arg with
  | .GeneratorExp elt [⟨tg, iter, ifs, 0⟩, ⟨tg2, iter2, ifs2, 0⟩] scope _ =>
    let own := ownOf q.N scope
    (match compG 9 (q.gblk scope) tg, compG 9 (q.gblk scope) tg2 with
    | some t, some t2 => if (scope.kind == .function && !scope.isCoroutine && (scope.names.all fun y => !(y.2 == .cell)) && scope.names.lookup (".0" : Str) == some .local && blkC q.N q.sc scope own && notLS iter && q.cod && (t.slots.all fun j => (own.map (·.2)).contains j) && (t2.slots.all fun j => (own.map (·.2)).contains j) && notSet iter2) then
        cGx2 (!all) (c.W q tg iter) t (ifsT c (q.gblk scope) ifs) (c.W (q.gblk scope) tg2 iter2) t2 (ifsT c (q.gblk scope) ifs2) (c.E (q.gblk scope) elt) (own.map (·.2)) t2.slots else failD
    | _, _ => failD)
  | _ => failD
theorem gx2_ok {p : Pos} {all : Bool} {f : Str} (hf : f = if all then "all" else "any") (hc : Sound P g n c) (O : XOk P g n q X) (h1 : P.fr f = true) (h2 : q.glB f = true) : PE X (.Call (.Name f p) [a] [] pos) (tI g W (stepGx2 c q all a)) := by
  unfold stepGx2
  split
  · rename_i elt tg iter ifs tg2 iter2 ifs2 scope p5
    simp only
    split
    · rename_i t t2 ht ht2
      split
      · rename_i hb
        simp only [Bool.and_eq_true, beq_iff_eq, List.all_eq_true, List.contains_iff_mem, Bool.not_eq_true'] at hb
        obtain ⟨⟨⟨⟨⟨⟨⟨⟨⟨b1, b2⟩, b3⟩, b4⟩, b5⟩, b6⟩, b7⟩, b8⟩, b9⟩, b10⟩ := hb
        obtain ⟨g1, _, _⟩ := O.gl h2
        have hm := O.fr f h1
        obtain ⟨cc, cP, t1, t2', t3⟩ := O.cod b7
        have hcell : ∀ y ∈ scope.names, y.2 ≠ .cell := fun y hy e => by
          have := b3 y hy
          rw [e] at this
          exact absurd this (by decide)
        have ok : BlkOk X.N X.env.scope scope (ownOf q.N scope) := blkOk_by (by rw [O.hN, O.scope]; exact b5)
        subst hf
        cases all with
        | true => exact (pe_allGx2 (own := ownOf q.N scope) (vs2 := t2.slots) g1 hm (by decide +kernel) (O.rmG b7) O.calm (by rw [O.hN]; exact O.nd) t2' t1 ok b2 hcell b4 (hc.W O tg iter) (fun s H C cl fp code pn => g_ok (O.gblk b7 s H scope C cl fp code pn b1) 9 ht)
            (fun s H C cl fp code pn => ifs_ok hc (O.gblk b7 s H scope C cl fp code pn b1) ifs) (fun s H C cl fp code pn => hc.E (O.gblk b7 s H scope C cl fp code pn b1) elt) (fun s H C cl fp code pn => hc.W (O.gblk b7 s H scope C cl fp code pn b1) tg2 iter2)
            (fun s H C cl fp code pn => g_ok (O.gblk b7 s H scope C cl fp code pn b1) 9 ht2) (fun s H C cl fp code pn => ifs_ok hc (O.gblk b7 s H scope C cl fp code pn b1) ifs2) b9 (fun env => fold_ok b10) (gfold_ok b6) (star_plain rfl _ _)).pimp fun _ _ _ h => tGx2_of t3 b8 (fun _ z => z) h
        | false => exact (pe_anyGx2 (own := ownOf q.N scope) (vs2 := t2.slots) g1 hm (O.rmG b7) O.calm (by rw [O.hN]; exact O.nd) t2' t1 ok b2 hcell b4 (hc.W O tg iter) (fun s H C cl fp code pn => g_ok (O.gblk b7 s H scope C cl fp code pn b1) 9 ht)
            (fun s H C cl fp code pn => ifs_ok hc (O.gblk b7 s H scope C cl fp code pn b1) ifs) (fun s H C cl fp code pn => hc.E (O.gblk b7 s H scope C cl fp code pn b1) elt) (fun s H C cl fp code pn => hc.W (O.gblk b7 s H scope C cl fp code pn b1) tg2 iter2)
            (fun s H C cl fp code pn => g_ok (O.gblk b7 s H scope C cl fp code pn b1) 9 ht2) (fun s H C cl fp code pn => ifs_ok hc (O.gblk b7 s H scope C cl fp code pn b1) ifs2) b9 (fun env => fold_ok b10) (gfold_ok b6) (star_plain rfl _ _)).pimp fun _ _ _ h => tGx2_of t3 b8 (fun _ z => z) h
      · exact s_fail
    · exact s_fail
  · exact s_fail
def twoC : Expr → Bool
  | .GeneratorExp _ [_, _] _ _ => true
  | _ => false
/-- the shape that stepSigns reads -/
def isSigns (c : Cmp) (q : CQ) : Expr → Bool
  | .GeneratorExp (.Compare (.Name y _) [op] [.Constant (.str k) _ _] _) [⟨.Name x _, iter, [], 0⟩] scope _ => y == x && genC scope x && notLS iter && q.cod && (signOf op k).isSome
  | _ => false
def stepAny (c : Cmp) (q : CQ) (all : Bool) (arg : Expr) : Dn := if isSigns c q arg then stepSigns c q all arg else if twoC arg then stepGx2 c q all arg else stepGx c q all arg
theorem any_ok {p : Pos} {all : Bool} {f : Str} (hf : f = if all then "all" else "any") (hc : Sound P g n c) (O : XOk P g n q X) (h1 : P.fr f = true) (h2 : q.glB f = true) : PE X (.Call (.Name f p) [a] [] pos) (tI g W (stepAny c q all a)) := by
  unfold stepAny
  split
  · exact signs_ok hf hc O h1 h2
  · split
    · exact gx2_ok hf hc O h1 h2
    · exact gx_ok hf hc O h1 h2
def isGen : Expr → Bool
  | .GeneratorExp _ _ _ _ => true
  | _ => false
/-- a def of the module -/
def stepUser (P : PP) (c : Cmp) (q : CQ) (x : Str) (args : List Expr) : Dn := match P.ar x with
  | some (m, ds) => if q.glB x && noStar args then cCall m (P.cl x) ds (cArgs (args.map (c.E q))) else failD
  | none => failD
theorem user_ok {p : Pos} (hc : Sound P g n c) (O : XOk P g n q X) : PE X (.Call (.Name x p) es [] pos) (tI g W (stepUser P c q x es)) := by
  unfold stepUser
  split
  · rename_i m ds h
    split
    · rename_i hb
      rw [Bool.and_eq_true] at hb
      obtain ⟨g1, g2, g3⟩ := O.gl hb.1
      obtain ⟨f, fd, ps, dvs, dus, h1, h2, h3, h4, h5, h6⟩ := O.cl x m ds h
      cases es with
      | nil => exact s_call0 h1 O.room g1 h2 h3 h4 h5 h6 g2
      | cons e es => exact s_call (K := X.K) h1 O.room g1 h2 h3 h4 h5 h6 (args_ok hc O _ hb.2) g2 hb.2
    · exact s_fail
  · exact s_fail
/-- a def that a local name holds -/
def cCallA (ar : Str → Option (Nat × List PV)) (cl : Str → List PV → M PV) (i : Nat) (fs : Ln) : Dn := fun env => match env[i]? with
  | some (some (.fn y)) => (match ar y with
    | some (m, ds) => cCall m (cl y) ds fs env
    | none => M.fail)
  | _ => M.fail
def stepLoc (P : PP) (c : Cmp) (q : CQ) (x : Str) (args : List Expr) : Dn :=
  if q.visB x && noStar args && !args.isEmpty then (match slot q.N x with
    | some i => cCallA P.ar P.cl i (cArgs (args.map (c.E q)))
    | none => failD) else failD
theorem loc_ok {p : Pos} (hc : Sound P g n c) (O : XOk P g n q X) : PE X (.Call (.Name x p) es [] pos) (tI g W (stepLoc P c q x es)) := by
  unfold stepLoc
  split
  · rename_i hb
    simp only [Bool.and_eq_true, Bool.not_eq_true'] at hb
    obtain ⟨⟨b1, b2⟩, b3⟩ := hb
    obtain ⟨v1, v2, v3⟩ := O.vis b1
    split
    · rename_i i hi
      cases es with
      | nil => cases b3
      | cons e es =>
        have h' : (!starred e) = true ∧ noStar es = true := by simpa [noStar] using b2
        refine ⟨fun pins s σ H Q I h => ?_⟩
        obtain ⟨ρ, env, st, E, S, h⟩ := h
        unfold cCallA at h
        have out : ∀ y, env[i]? = some (some (.fn y)) → Post g W ρ H ((match P.ar y with | some (m, ds) => cCall m (P.cl y) ds (cArgs ((e :: es).map (c.E q))) env | none => M.fail) st) (fun d _ ρ' H' => ∀ v, RepV g ρ' H' v d → Q v H') →
            wpAny (model X.prog X.w) X.A (eval (.Call (.Name x p) (e :: es) [] pos) X.env) (EP X pins σ Q) X.xe s := fun y hy h => by
          cases har : P.ar y with
          | none => rw [har] at h; exact h.elim
          | some md =>
            obtain ⟨m, ds⟩ := md
            rw [har] at h
            obtain ⟨f, fd, ps, dvs, dus, h1, h2, h3, h4, h5, h6⟩ := O.cl y m ds har
            have hf : f = g.fna y := by
              have q := (O.fna y m ds har).symm.trans h2
              cases q; rfl
            obtain ⟨v, e1, rv⟩ := E.at_ i _ hy
            cases rv
            refine (pe_callL (i := i) (E := C8.E0) h1 O.room (O.ix hi) v1 h3 h4 h5 C8.pass0 (args_ok (W := W) hc O (e :: es) b2) v2 v3 (star_plain (by simpa using h'.1) _ _) (star_all h'.2).1).run pins s σ H Q I ⟨by rw [hf]; exact e1, ?_⟩
            exact call_of (E := C8.E0) h6 (fun _ _ _ z => z) ⟨ρ, env, st, E, S, h⟩
        cases hy : env[i]? with
        | none => rw [hy] at h; exact h.elim
        | some o =>
          cases o with
          | none => rw [hy] at h; exact h.elim
          | some d =>
            cases d with
            | fn y => rw [hy] at h; exact out y hy h
            | _ => rw [hy] at h; exact h.elim
    · exact s_fail
  · exact s_fail
def stepCall (P : PP) (c : Cmp) (q : CQ) (x : Str) (args : List Expr) : Dn :=
  if P.fr x && q.glB x && noStar args then (match args with
    | [] => failD
    | [a] => if isGen a then (if x == "any" then stepAny c q false a else if x == "all" then stepAny c q true a else failD)
      else (match c.L q a, bltL x with
        | some fl, some F => cApp F fl
        | _, _ => match bltOf x with
          | some F => cApp F (cArgs [c.E q a])
          | none => failD)
    | [a, .Name T _] => if x == "isinstance" && P.fr T && q.glB T then (match tyOf T with
        | some t => cIsi (c.E q a) t
        | none => failD)
      else (match bltOf x with
        | some F => cApp F (stepA c q args)
        | none => failD)
    | _ => match bltOf x with
      | some F => cApp F (stepA c q args)
      | none => failD)
  else if q.visB x then stepLoc P c q x args
  else stepUser P c q x args
theorem blt_ok {p : Pos} (hc : Sound P g n c) (O : XOk P g n q X) (h1 : P.fr x = true) (h2 : q.glB x = true) (h3 : noStar (e :: es) = true) : PE X (.Call (.Name x p) (e :: es) [] pos) (tI g W (match bltOf x with
      | some F => cApp F (stepA c q (e :: es))
      | none => failD)) := by
  split
  · rename_i F hF
    exact s_bltOf O hF h1 h2 (a_ok hc O _) h3
  · exact s_fail
theorem call_ok {p : Pos} (hc : Sound P g n c) (O : XOk P g n q X) : PE X (.Call (.Name x p) es [] pos) (tI g W (stepCall P c q x es)) := by
  unfold stepCall
  split
  · rename_i hb
    simp only [Bool.and_eq_true] at hb
    obtain ⟨⟨h1, h2⟩, h3⟩ := hb
    split
    · exact s_fail
    · rename_i a
      split
      · split
        · rename_i e1
          cases eq_of_beq e1
          exact any_ok rfl hc O h1 h2
        · split
          · rename_i e1
            cases eq_of_beq e1
            exact any_ok rfl hc O h1 h2
          · exact s_fail
      · have hs : starred a = false := by
          have : (!starred a) = true ∧ noStar [] = true := by simpa [noStar] using h3
          simpa using this.1
        split
        · rename_i fl F hl hF
          exact s_bltL O hF h1 h2 (hc.L O a fl hl) hs
        · split
          · rename_i F hF
            exact s_bltOf O hF h1 h2 (s_cons (hc.E O a) s_nil hs) h3
          · exact s_fail
    · rename_i a T p2
      split
      · rename_i e1
        simp only [Bool.and_eq_true] at e1
        obtain ⟨⟨e1, e2⟩, e3⟩ := e1
        cases eq_of_beq e1
        split
        · rename_i t ht
          obtain ⟨t1, t2⟩ := ty_ok (p := p2) O ht e2 e3
          have hs : starred a = false := by
            have : (!starred a) = true ∧ noStar [Expr.Name T p2] = true := by simpa [noStar] using h3
            simpa using this.1
          exact s_isi O.hK (O.gl h2).1 (O.fr _ h1) (hc.E O a) t1 t2 hs
        · exact s_fail
      · exact blt_ok hc O h1 h2 h3
    · cases es with
      | nil => rename_i h _ _; exact absurd rfl h
      | cons a es => exact blt_ok hc O h1 h2 h3
  · split
    · exact loc_ok hc O
    · exact user_ok hc O
/-! ### methods -/
def metOf (name : Str) : Option (PV → List PV → M PV) :=
  if name == "append" then some mAppend else if name == "extend" then some mExtend else if name == "pop" then some mPop else none
theorem metOf_ok {F : PV → List PV → M PV} {name : Str} {apos : Pos} (hc : Sound P g n c) (O : XOk P g n q X) (h : metOf name = some F) (hs : noStar es = true) (hl : es.length < 20) (hb : attributeBase o name X.env (eval o X.env) = eval o X.env) (hline : (apos.endLine == pos.line) = true) :
    PE X (.Call (.Attribute o name apos) es [] pos) (tI g W (cMet "list" F (c.E q o) (cArgs (es.map (c.E q))))) := by
  have ho := hc.E (W := W) O o
  have ha := args_ok (W := W) hc O es hs
  unfold metOf at h
  split at h
  · rename_i e1; cases h; cases eq_of_beq e1
    cases es with
    | nil => exact s_metN ty_list F.plainAttrs_list F.slot_list_append F.type_list_append mt_append ms_append ho hb hline
    | cons e es => exact s_met ty_list F.plainAttrs_list F.slot_list_append F.type_list_append mt_append ms_append ho ha hs (by omega) hb hline
  split at h
  · rename_i e1; cases h; cases eq_of_beq e1
    cases es with
    | nil => exact s_metN ty_list F.plainAttrs_list F.slot_list_extend F.type_list_extend mt_extend ms_extend ho hb hline
    | cons e es => exact s_met ty_list F.plainAttrs_list F.slot_list_extend F.type_list_extend mt_extend ms_extend ho ha hs (by omega) hb hline
  split at h
  · rename_i e1; cases h; cases eq_of_beq e1
    cases es with
    | nil => exact s_metN ty_list F.plainAttrs_list F.slot_list_pop F.type_list_pop mt_pops ms_pop ho hb hline
    | cons e es => exact s_met ty_list F.plainAttrs_list F.slot_list_pop F.type_list_pop mt_pops ms_pop ho ha hs (by omega) hb hline
  · cases h
def stepMeth (c : Cmp) (q : CQ) (o : Expr) (name : Str) (apos : Pos) (args : List Expr) (pos : Pos) : Dn :=
  if notSuper o && apos.endLine == pos.line && noStar args && decide (args.length < 20) then
    (if name == "join" then (match args with
      | [a] => match c.L q a with
        | some fl => cMetL mJoinL (c.E q o) fl
        | none => cMet1 mJoin (c.E q o) (c.E q a)
      | _ => failD)
    else match metOf name with
      | some F => cMet "list" F (c.E q o) (cArgs (args.map (c.E q)))
      | none => failD)
  else failD
theorem meth_ok {name : Str} {apos : Pos} (hc : Sound P g n c) (O : XOk P g n q X) : PE X (.Call (.Attribute o name apos) es [] pos) (tI g W (stepMeth c q o name apos es pos)) := by
  unfold stepMeth
  split
  · rename_i hb
    simp only [Bool.and_eq_true, decide_eq_true_eq] at hb
    obtain ⟨⟨⟨h1, h2⟩, h3⟩, h4⟩ := hb
    have hbase := base_ok (name := name) h1 X.env (eval o X.env)
    split
    · rename_i e1
      cases eq_of_beq e1
      split
      · rename_i a
        have hs : starred a = false := by
          have : (!starred a) = true ∧ noStar [] = true := by simpa [noStar] using h3
          simpa using this.1
        split
        · rename_i fl hl
          exact s_metL F.slot_str_join F.type_str_join mt_join ml_join (hc.E O o) (hc.L O a fl hl) hs hbase h2
        · exact s_met1 F.slot_str_join F.type_str_join mt_join (ms_join O.hK) (hc.E O o) (hc.E O a) hs hbase h2
      · exact s_fail
    · split
      · rename_i F hF
        exact metOf_ok hc O hF h3 h4 hbase h2
      · exact s_fail
  · exact s_fail
end
end PyI

/-! PyH1: f-strings of texts and ints. -/
namespace PyI
open L2 PySem PySem.Spec PyProof.Rows

def cFmt (f : Dn) : Dn := fun env => do
  let d ← f env
  match d with
  | .str y => if y.length ≤ sizeLine then pure (.str y) else M.fail
  | .int i => if i.natAbs.log2 < 1920 then pure (.str (toString i)) else M.fail
  | _ => M.fail
def jsP : List Dn → Str → EnvP → M Str
  | [], acc, _ => pure acc
  | f :: fs, acc, env => do
    let d ← f env
    match d with
    | .str y => if (acc ++ y).length ≤ sizeLine then jsP fs (acc ++ y) env else M.fail
    | _ => M.fail
def cJoin (fs : List Dn) : Dn := fun env => do
  let out ← jsP fs Str.empty env
  pure (.str out)
section
variable {X : Cx} {g : Gd} {W : XW} {e : Expr} {pos : Pos} {f : Dn}
theorem s_fmt (he : PE X e (tI g W f)) : PE X (.FormattedValue e (-1) none pos) (tI g W (cFmt f)) :=
  (pe_fmt he).pimp fun σ H Q ⟨ρ, env, st, E, S, h⟩ => ⟨ρ, env, st, E, S, h.bind.mono fun d st1 ρ1 H1 x1 S1 h1 v hv => by
    cases hv with
    | str y =>
      replace h1 : Post g W ρ1 H1 ((if y.length ≤ sizeLine then (pure (.str y) : M PV) else M.fail) st1) (fun d x ρ' H' => ∀ (v : V), RepV g ρ' H' v d → Q v H') := h1
      by_cases hz : y.length ≤ sizeLine
      · rw [if_pos hz] at h1
        exact .inl ⟨y, rfl, hz, h1 ρ1 H1 (Ext.refl _ _) S1 _ (.str _)⟩
      · rw [if_neg hz] at h1; exact h1.elim
    | int i =>
      replace h1 : Post g W ρ1 H1 ((if i.natAbs.log2 < 1920 then (pure (.str (toString i)) : M PV) else M.fail) st1) (fun d x ρ' H' => ∀ (v : V), RepV g ρ' H' v d → Q v H') := h1
      by_cases hz : i.natAbs.log2 < 1920
      · rw [if_pos hz] at h1
        exact .inr ⟨i, rfl, hz, h1 ρ1 H1 (Ext.refl _ _) S1 _ (.str _)⟩
      · rw [if_neg hz] at h1; exact h1.elim
    | _ => exact h1.elim⟩
theorem js_of {σ : L2.St} : ∀ (fs : List Dn) (acc : Str) (H : Hp) (Q : Str → Hp → Prop) (ρ : Rho) (env : EnvP) (st : Store), EnvR g ρ H σ env → Sim g ρ st H → Post g W ρ H (jsP fs acc env st) (fun out _ _ H' => Q out H') → tJs (fs.map (tI g W)) acc σ H Q
  | [], acc, H, Q, ρ, env, st, E, S, h => h ρ H (Ext.refl _ _) S
  | f :: fs, acc, H, Q, ρ, env, st, E, S, h => ⟨ρ, env, st, E, S, (Post.bind h).mono fun d st1 ρ1 H1 x1 S1 h1 v hv => by
    cases hv with
    | str y =>
      by_cases hz : (acc ++ y).length ≤ sizeLine
      · refine ⟨y, rfl, hz, js_of fs (acc ++ y) H1 Q ρ1 env st1 (E.ext S x1) S1 ?_⟩
        have h1 : Post g W ρ1 H1 ((if (acc ++ y).length ≤ sizeLine then jsP fs (acc ++ y) env else M.fail) st1) (fun out _ _ H' => Q out H') := h1
        rw [if_pos hz] at h1
        exact h1
      · have h1 : Post g W ρ1 H1 ((if (acc ++ y).length ≤ sizeLine then jsP fs (acc ++ y) env else M.fail) st1) (fun out _ _ H' => Q out H') := h1
        rw [if_neg hz] at h1; exact h1.elim
    | _ => exact h1.elim⟩
theorem s_join {v1 v2 : Expr} {rest : List Expr} {fs : List Dn} (h : PJ X (v1 :: v2 :: rest) (fs.map (tI g W))) : PE X (.JoinedStr (v1 :: v2 :: rest) pos) (tI g W (cJoin fs)) :=
  (pe_joined h).pimp fun σ H Q ⟨ρ, env, st, E, S, h⟩ => js_of fs Str.empty H _ ρ env st E S ((Post.bind h).mono fun out st1 ρ1 H1 x1 S1 h1 => h1 ρ1 H1 (Ext.refl _ _) S1 _ (.str _))
theorem s_join1 (he : PE X e (tI g W f)) : PE X (.JoinedStr [e] pos) (tI g W f) := pe_joined1 he
end
end PyI

/-! PyI19: expressions and tests as a whole. -/
namespace PyI
open L2 PySem PySem.Spec PyProof.Rows

/-- a written dict by its name -/
def kdOf (P : PP) (q : CQ) : Expr → Option (List (Str × PV))
  | .Name x _ => if q.glB x then P.kd x else none
  | _ => none
def kdNeg : CmpOp → Option Bool
  | .In => some false
  | .NotIn => some true
  | _ => none
def isNm : Expr → Bool
  | .Name _ _ => true
  | _ => false
def cPartE (c : Cmp) (q : CQ) : Option Expr → Option Dn
  | none => none
  | some e => some (c.E q e)
def stepName (P : PP) (q : CQ) (x : Str) : Dn :=
  if q.visB x then (match slot q.N x with
    | some i => cVar i
    | none => failD)
  else if q.glB x then (match P.cn x with
    | some d => cC d
    | none => (match P.ar x with
      | some _ => cC (.fn x)
      | none => failD))
  else failD
def stepConst : Const → Dn
  | .none => cC .non
  | .bool b => cC (.bl b)
  | .int i => cC (.int i)
  | .str s => cC (.str s)
  | _ => failD
def stepCmp (P : PP) (c : Cmp) (q : CQ) (a : Expr) (ops : List CmpOp) (es : List Expr) : Dn := match ops, es with
  | [op], [b] => if behindInMarks op b then failD else (match kdOf P q b, kdNeg op with
    | some kvs, some neg => cKdIn neg kvs (c.E q a)
    | _, _ => cBin (cmpOf op) (c.E q a) (c.E q b))
  | [op, op'], [b, d] => if lastMarks [op, op'] [b, d] then failD else cChain (cmpOf op) (cmpOf op') (c.E q a) (c.E q b) (c.E q d)
  | _, _ => failD
def stepE (P : PP) (c : Cmp) (q : CQ) (e : Expr) : Dn := match e with
  | .Name x _ => stepName P q x
  | .Constant k _ _ => stepConst k
  | .BinOp a op b p => (match c.L q (.BinOp a op b p) with
    | some fl => cKeep fl
    | none => match opOf op with
      | some F => cBin F (c.E q a) (c.E q b)
      | none => failD)
  | .UnaryOp .Not a _ => cNotV (c.E q a)
  | .UnaryOp .USub a _ => cUn opNeg (c.E q a)
  | .BoolOp .And es _ => if es.isEmpty then failD else cAndsV (es.map (c.E q))
  | .BoolOp .Or es _ => if es.isEmpty then failD else cOrsV (es.map (c.E q))
  | .Compare a ops es _ => stepCmp P c q a ops es
  | .IfExp t a b _ => cIf (c.T q t) (c.E q a) (c.E q b)
  | .Tuple es _ _ => cTup (stepA c q es)
  | .Subscript a (.Slice lo hi none _) _ => cSlice (c.E q a) (cPartE c q lo) (cPartE c q hi)
  | .Subscript a b _ => if plainIxB b then (match kdOf P q a with
    | some kvs => cKdGet kvs (c.E q b)
    | none => cBin getItemP (c.E q a) (c.E q b)) else failD
  | .Call (.Name x p) args [] p2 => (match c.L q (.Call (.Name x p) args [] p2) with
    | some fl => cKeep fl
    | none => stepCall P c q x args)
  | .Call (.Attribute o name apos) args [] pos => (match c.L q (.Call (.Attribute o name apos) args [] pos) with
    | some fl => cKeep fl
    | none => stepMeth c q o name apos args pos)
  | .JoinedStr es _ => (match es with
    | [] => failD
    | [e] => c.E q e
    | _ => cJoin (es.map (c.E q)))
  | .FormattedValue e k none _ => if k == -1 then cFmt (c.E q e) else failD
  | e => match c.L q e with
    | some fl => cKeep fl
    | none => failD
def stepT (P : PP) (c : Cmp) (q : CQ) (e : Expr) : Tn := match e with
  | .UnaryOp .Not a _ => cNotT (c.T q a)
  | .BoolOp .And es _ => if es.isEmpty then failT else cAnds (es.map (c.T q))
  | .BoolOp .Or es _ => if es.isEmpty then failT else cOrs (es.map (c.T q))
  | .Compare a ops es _ => cTest (stepCmp P c q a ops es)
  | e => if plainTest e then cTruth (c.E q e) else failT
section
variable {X : Cx} {P : PP} {g : Gd} {W : XW} {n : Nat} {q : CQ} {e a b o : Expr} {es : List Expr} {x : Str} {pos : Pos} {c : Cmp}
theorem name_ok (O : XOk P g n q X) : PE X (.Name x pos) (tI g W (stepName P q x)) := by
  unfold stepName
  split
  · rename_i h
    obtain ⟨v1, v2, v3⟩ := O.vis h
    split
    · rename_i i hi
      exact s_var (O.ix hi) v1 v2 v3
    · exact s_fail
  · split
    · rename_i h
      obtain ⟨g1, g2, g3⟩ := O.gl h
      split
      · rename_i d hd
        obtain ⟨u, v, h1, h2, h3⟩ := O.cn x d hd
        exact s_const (pe_glob g1 h1 h2 g2) h3
      · split
        · rename_i md hd
          exact s_const (pe_glob g1 (O.fna x md.1 md.2 hd) (v := .ref (g.fna x)) rfl g2) fun _ _ => .fn x
        · exact s_fail
    · exact s_fail
theorem const_ok {k : Const} {j : Nat} : PE X (.Constant k j pos) (tI g W (stepConst k)) := by
  cases k with
  | none => exact s_const pe_non fun _ _ => .non
  | bool b => exact s_const pe_bl fun _ _ => .bl b
  | int i => exact s_const pe_int fun _ _ => .int i
  | str s => exact s_const pe_str fun _ _ => .str s
  | _ => exact s_fail
theorem kd_ok {kvs : List (Str × PV)} (O : XOk P g n q X) (h : kdOf P q e = some kvs) : ∃ y, KdS g X y kvs ∧ PE X e (tC (.ref (g.kda y))) := by
  unfold kdOf at h
  split at h
  · rename_i x p
    split at h
    · rename_i hg
      obtain ⟨g1, g2, g3⟩ := O.gl hg
      obtain ⟨h1, h2⟩ := O.kd x kvs h
      exact ⟨x, h2, pe_glob g1 h1 rfl g2⟩
    · cases h
  · cases h
theorem cmp_okE {ops : List CmpOp} (hc : Sound P g n c) (O : XOk P g n q X) : PE X (.Compare a ops es pos) (tI g W (stepCmp P c q a ops es)) := by
  unfold stepCmp
  split
  · rename_i op b
    split
    · exact s_fail
    · rename_i hm
      have hm : behindInMarks op b = false := by simpa using hm
      split
      · rename_i kvs neg h1 h2
        obtain ⟨y, D, hb⟩ := kd_ok O h1
        cases op <;> simp only [kdNeg, Option.some.injEq, reduceCtorEq] at h2 <;> subst h2
        · exact s_kdIn D (hc.E O a) hb hm
        · exact s_kdNotIn D (hc.E O a) hb hm
      · obtain ⟨r, h1, h2⟩ := cmp_ok (W := W) O op
        exact s_cmp h1 h2 (hc.E O a) (hc.E O b) hm
  · rename_i op op' b d
    split
    · exact s_fail
    · rename_i hm
      have hm : lastMarks [op, op'] [b, d] = false := by simpa using hm
      obtain ⟨r, h1, h2⟩ := cmp_ok (W := W) O op
      obtain ⟨r', h3, h4⟩ := cmp_ok (W := W) O op'
      exact s_chain h1 h2 h3 h4 (hc.E O a) (hc.E O b) (hc.E O d) hm
  · exact s_fail
theorem cmp_okT {ops : List CmpOp} (hc : Sound P g n c) (O : XOk P g n q X) : PT X (.Compare a ops es pos) (tT g W (cTest (stepCmp P c q a ops es))) := by
  unfold stepCmp
  have ff : ∀ {e : Expr}, PT X e (tT g W (cTest failD)) := ⟨fun _ _ _ _ _ _ ⟨_, _, _, _, _, h⟩ => h.elim⟩
  split
  · rename_i op b
    split
    · exact ff
    · rename_i hm
      have hm : behindInMarks op b = false := by simpa using hm
      split
      · rename_i kvs neg h1 h2
        obtain ⟨y, D, hb⟩ := kd_ok O h1
        cases op <;> simp only [kdNeg, Option.some.injEq, reduceCtorEq] at h2 <;> subst h2
        · exact s_kdInT D (hc.E O a) hb hm
        · exact s_kdNotInT D (hc.E O a) hb hm
      · obtain ⟨r, h1, h2⟩ := cmp_ok (W := W) O op
        exact s_cmpT h1 h2 (hc.E O a) (hc.E O b) hm
  · rename_i op op' b d
    split
    · exact ff
    · rename_i hm
      have hm : lastMarks [op, op'] [b, d] = false := by simpa using hm
      obtain ⟨r, h1, h2⟩ := cmp_ok (W := W) O op
      obtain ⟨r', h3, h4⟩ := cmp_ok (W := W) O op'
      exact s_chainT h1 h2 h3 h4 (hc.E O a) (hc.E O b) (hc.E O d) hm
  · exact ff
theorem pel_ok (hc : Sound P g n c) (O : XOk P g n q X) : PEl X g W es (es.map (c.E q)) := ⟨by simp, fun i e t h1 h2 => by
  rw [List.getElem?_map, h1] at h2
  cases h2
  exact hc.E O e⟩
theorem ptl_ok (hc : Sound P g n c) (O : XOk P g n q X) : PTl X g W es (es.map (c.T q)) := ⟨by simp, fun i e t h1 h2 => by
  rw [List.getElem?_map, h1] at h2
  cases h2
  exact hc.T O e⟩
theorem part_ok (hc : Sound P g n c) (O : XOk P g n q X) : ∀ (e : Option Expr), PO X e (tO g W (cPart (cPartE c q e)))
  | none => so_none
  | some e => so_some (hc.E O e)
theorem pw_pt {t : TT} (h : PW X e t) : PT X e t := ⟨fun pins s σ H Q I hw => h.run _ pins s σ H Q I hw⟩
theorem pj_ok (hc : Sound P g n c) (O : XOk P g n q X) : ∀ es : List Expr, PJ X es ((es.map (c.E q)).map (tI g W))
  | [] => .nil
  | e :: es => .cons (hc.E O e) (pj_ok hc O es)
theorem e_ok (hc : Sound P g n c) (O : XOk P g n q X) (e : Expr) : PE X e (tI g W (stepE P c q e)) := by
  have gen : ∀ e, PE X e (tI g W (match c.L q e with | some fl => cKeep fl | none => failD)) := fun e => by
    split
    · rename_i fl h
      exact s_keep (hc.L O e fl h)
    · exact s_fail
  unfold stepE
  split
  · exact name_ok O
  · exact const_ok
  · rename_i a op b p
    split
    · rename_i fl h
      exact s_keep (hc.L O _ fl h)
    · split
      · rename_i F h
        exact s_binOf O h (hc.E O a) (hc.E O b)
      · exact s_fail
  · rename_i a p
    exact s_notV O.hK (hc.E O a)
  · rename_i a p
    exact s_un un_neg (fun S hx h => opS_neg S hx h) (hc.E O a)
  · rename_i es p
    split
    · exact s_fail
    · rename_i h
      exact s_andV O.hK (pel_ok hc O) (by intro z; subst z; exact h rfl)
  · rename_i es p
    split
    · exact s_fail
    · rename_i h
      exact s_orV O.hK (pel_ok hc O) (by intro z; subst z; exact h rfl)
  · exact cmp_okE hc O
  · rename_i t a b p
    exact s_ifExp (hc.T O t) (hc.E O a) (hc.E O b)
  · rename_i es k p
    unfold stepA
    by_cases h : noStar es = true
    · rw [if_pos h]; exact s_tup (args_ok hc O es h)
    · rw [if_neg h]; exact ⟨fun _ _ _ _ _ _ ⟨_, _, _, _, _, h⟩ => h.elim⟩
  · rename_i a lo hi p p2
    exact s_slice O.hK (hc.E O a) (part_ok hc O lo) (part_ok hc O hi)
  · rename_i a b p _
    split
    · rename_i hs
      split
      · rename_i kvs h1
        obtain ⟨y, D, ha⟩ := kd_ok O h1
        exact s_kdGet D ha (hc.E O b) hs
      · exact s_sub O.hK (by have := O.room.units; omega) (hc.E O a) (hc.E O b) hs
    · exact s_fail
  · rename_i x p args p2
    split
    · rename_i fl h
      exact s_keep (hc.L O _ fl h)
    · exact call_ok hc O
  · rename_i o name apos args pos
    split
    · rename_i fl h
      exact s_keep (hc.L O _ fl h)
    · exact meth_ok hc O
  · rename_i es p
    match es with
    | [] => exact s_fail
    | [e] => exact s_join1 (hc.E O e)
    | v1 :: v2 :: rest => exact s_join (pj_ok hc O (v1 :: v2 :: rest))
  · rename_i e k p
    split
    · rename_i hk
      cases eq_of_beq hk
      exact s_fmt (hc.E O e)
    · exact s_fail
  · exact gen _
theorem t_ok (hc : Sound P g n c) (O : XOk P g n q X) (e : Expr) : PT X e (tT g W (stepT P c q e)) := by
  unfold stepT
  split
  · rename_i a p
    exact s_not (hc.T O a)
  · rename_i es p
    split
    · exact t_fail
    · rename_i h
      exact (s_and (ptl_ok hc O) (by intro z; subst z; exact h rfl)) |> pw_pt
  · rename_i es p
    split
    · exact t_fail
    · rename_i h
      exact (s_or (ptl_ok hc O) (by intro z; subst z; exact h rfl)) |> pw_pt
  · exact cmp_okT hc O
  · split
    · rename_i h
      exact s_test O.hK (hc.E O _) h
    · exact t_fail
end
def cmp0 : Cmp := ⟨fun _ _ => failD, fun _ _ => failT, fun _ _ => none, fun _ _ _ => failW⟩
def cmpS (P : PP) (c : Cmp) : Cmp := ⟨stepE P c, stepT P c, stepL P c, stepW P c⟩
def comp (P : PP) : Nat → Cmp
  | 0 => cmp0
  | n + 1 => cmpS P (comp P n)
theorem comp_ok {P : PP} {g : Gd} {n : Nat} : ∀ k, Sound P g n (comp P k)
  | 0 => ⟨fun _ _ => s_fail, fun _ _ => t_fail, fun _ _ _ h => (nomatch h), fun _ _ _ => w_fail⟩
  | k + 1 => ⟨fun O e => e_ok (comp_ok k) O e, fun O e => t_ok (comp_ok k) O e, fun O e fl h => l_ok (comp_ok k) O e fl h, fun O tg e => w_ok (comp_ok k) O tg e⟩
end PyI

/-! PyI20: the reading of statements. -/
namespace PyI
open L2 PySem PySem.Spec PyProof.Rows

def isCompr : Expr → Bool
  | .ListComp _ _ _ _ => true
  | .SetComp _ _ _ _ => true
  | .DictComp _ _ _ _ _ => true
  | _ => false
def isTupE : Expr → Bool
  | .Tuple _ _ _ => true
  | _ => false
/-- does x = [..] put the list down inside? -/
def swB (q : CQ) (x : Str) (p' : Pos) (scope : Scope) (vpos : Pos) : Bool :=
  q.kind x == some .local && p'.line == vpos.line && !(scope.names.any fun p => p.1 == x && (p.2 == .local || p.2 == .cell))
section
variable {X : Cx} {P : PP} {g : Gd} {W : XW} {n : Nat} {q : CQ} {e a b o v tg : Expr} {es : List Expr} {x : Str} {pos : Pos} {c : Cmp}
theorem sw_plain (h : isCompr v = false) {t : Option Expr} {l : Nat} {env : Env} : swapsWith v t l env = pure false := by
  cases v <;> first | rfl | exact absurd h (by simp [isCompr])
theorem XOk.bk (O : XOk P g n q X) : X.env.blockKind = .function := by
  unfold Env.blockKind
  rw [O.scope, O.kind]
  rfl
theorem sw_false (O : XOk P g n q X) {elt : Expr} {gs : List Comprehension} {scope : Scope} {vpos p' : Pos} {l : Nat} (h : swB q x p' scope vpos = false) : swapsWith (.ListComp elt gs scope vpos) (some (.Name x p')) l X.env = pure false := by
  show (pure (X.env.blockKind == .function && X.env.kindOf x == some .local && p'.line == vpos.line && !(scope.names.any fun (n, k) => n == x && (k == .local || k == .cell))) : Sem Bool) = pure false
  rw [O.bk]
  unfold Env.kindOf
  rw [O.scope]
  have : (q.sc.names.lookup x == some .local && p'.line == vpos.line && !(scope.names.any fun p => p.1 == x && (p.2 == .local || p.2 == .cell))) = false := h
  rw [show ((ScopeKind.function == ScopeKind.function) = true) from rfl, Bool.true_and]
  exact congrArg pure this
theorem sw_yes (O : XOk P g n q X) {elt : Expr} {gs : List Comprehension} {scope : Scope} {vpos p' : Pos} {l : Nat} (h : swB q x p' scope vpos = true) : swapsWith (.ListComp elt gs scope vpos) (some (.Name x p')) l X.env = pure true := by
  show (pure (X.env.blockKind == .function && X.env.kindOf x == some .local && p'.line == vpos.line && !(scope.names.any fun (n, k) => n == x && (k == .local || k == .cell))) : Sem Bool) = pure true
  rw [O.bk]
  unfold Env.kindOf
  rw [O.scope]
  have : (q.sc.names.lookup x == some .local && p'.line == vpos.line && !(scope.names.any fun p => p.1 == x && (p.2 == .local || p.2 == .cell))) = true := h
  rw [show ((ScopeKind.function == ScopeKind.function) = true) from rfl, Bool.true_and]
  exact congrArg pure this
/-- x = [..], the list put down inside -/
theorem ss_setLc {i : Nat} {elt tg iter : Expr} {ifs : List Expr} {scope : Scope} {own : List (Str × Nat)} {wi : Wn} {t : Tg} {tt : Tn} {te : Dn} {py spos vpos : Pos} (hc : X.calm = true) (hN : X.N.Nodup) (hy : X.N[i]? = some x) (hyl : X.env.scope.names.lookup x = some .local)
    (hsw : swapsWith (.ListComp elt [⟨tg, iter, ifs, 0⟩] scope vpos) (some (.Name x py)) spos.line X.env = pure true) (hi : PI X tg iter (tW g W wi)) (ok : BlkOk X.N X.env.scope scope own) (ht : ∀ j ∈ t.slots, j ∈ own.map (·.2))
    (hg : ∀ (s : Shared) (H : Hp) (C : Addr) (cl : List (Str × Addr)) (fp : List Addr), PG (X.blk s H scope (compEnvC scope cl C X.env) fp) tg (tG g W0 t)) (hts : ∀ (s : Shared) (H : Hp) (C : Addr) (cl : List (Str × Addr)) (fp : List Addr), PTs (X.blk s H scope (compEnvC scope cl C X.env) fp) ifs (tT g W0 tt))
    (he : ∀ (s : Shared) (H : Hp) (C : Addr) (cl : List (Str × Addr)) (fp : List Addr), PE (X.blk s H scope (compEnvC scope cl C X.env) fp) elt (tI g W0 te)) (hs : ∀ x, foldedSetIterable iter X.env x = pure x) :
    PS X (.Assign [.Name x py] (.ListComp elt [⟨tg, iter, ifs, 0⟩] scope vpos) spos) (tS g W (sAsg (cKeep (cCompN wi t tt te (own.map (·.2)))) (.name i))) :=
  (ps_setLc hc hN hy hyl hsw hi ok hg hts he hs).pimp fun D σ H h => by
    refine tLc_of (Q := fun x H1 => gName i x σ H1 D.nx) ht ?_
    obtain ⟨ρ, env, st, E, S, h⟩ := h
    refine ⟨ρ, env, st, E, S, ?_⟩
    have h0 := h.bind
    unfold cKeep at h0
    refine (Post.bind h0).monoE fun xs st1 ρ1 H1 z1 x1 S1 _ a vs ha hn hH hv => ?_
    unfold sAsg cKeep at h
    rw [bind_ok (show (do let xs ← cCompN wi t tt te (own.map (·.2)) env; newLst xs : M PV) st = newLst xs st1 from bind_ok z1)] at h
    exact (h (ρ1 ++ [a]) H1 (x1.take hn) (S1.take ha hH hv)) _ ((E.ext S (x1.take hn)).set i (.obj (by rw [← S1.len]; simp)))
def stepAsgLc (c : Cmp) (q : CQ) (i : Nat) (v : Expr) : Sm := match c.L q v with
  | some fl => sAsg (cKeep fl) (.name i)
  | none => sFail
theorem setLc_ok {i : Nat} {elt tg iter : Expr} {ifs : List Expr} {scope : Scope} {fl : Ln} {py spos vpos : Pos} (hc : Sound P g n c) (O : XOk P g n q X) (h : stepLc c q elt tg iter ifs scope = some fl) (hsl : slot q.N x = some i) (hsw : swB q x py scope vpos = true) :
    PS X (.Assign [.Name x py] (.ListComp elt [⟨tg, iter, ifs, 0⟩] scope vpos) spos) (tS g W (sAsg (cKeep fl) (.name i))) := by
  have hl : X.env.scope.names.lookup x = some .local := by
    rw [O.scope]
    have := hsw
    unfold swB CQ.kind at this
    simp only [Bool.and_eq_true, beq_iff_eq] at this
    exact this.1.1
  unfold stepLc at h
  simp only at h
  split at h
  · rename_i t ht
    split at h
    · rename_i hb
      cases h
      simp only [Bool.and_eq_true, beq_iff_eq, List.all_eq_true, List.contains_iff_mem] at hb
      obtain ⟨⟨⟨h1, h2⟩, h3⟩, h4⟩ := hb
      exact ss_setLc O.calm (by rw [O.hN]; exact O.nd) (O.ix hsl) hl (sw_yes O hsw) (hc.W O tg iter) (blkOk_by (by rw [O.hN, O.scope]; exact h2)) h4 (fun s H C cl fp => g_ok (O.blk s H scope C cl fp h1) 9 ht)
        (fun s H C cl fp => ifs_ok hc (O.blk s H scope C cl fp h1) ifs) (fun s H C cl fp => hc.E (O.blk s H scope C cl fp h1) elt) (fold_ok h3)
    · cases h
  · cases h
/-- a pair of names, stored from the right -/
def parB (q : CQ) (x y : Str) (px py : Pos) (a b : Expr) : Bool :=
  q.kind x == some .local && q.kind y == some .local && py.line == px.line && !(x == y) && !starred a && !starred b && !(foldedForSure 8 a && foldedForSure 8 b) && !(constantsAlone 8 a && constantsAlone 8 b)
theorem par_some (O : XOk P g n q X) {y : Str} {px py pt pt2 : Pos} {k k2 : Nat} (h : parB q x y px py a b = true) : swappedStores [.Tuple [.Name x px, .Name y py] k pt] (.Tuple [a, b] k2 pt2) X.env = pure (some [x, y]) := by
  unfold parB CQ.kind at h
  simp only [Bool.and_eq_true, Bool.not_eq_true', beq_iff_eq] at h
  obtain ⟨⟨⟨⟨⟨⟨⟨h1, h2⟩, h3⟩, h4⟩, h5⟩, h6⟩, h7⟩, h8⟩ := h
  have kx : X.env.kindOf x = some .local := by unfold Env.kindOf; rw [O.scope]; exact h1
  have ky : X.env.kindOf y = some .local := by unfold Env.kindOf; rw [O.scope]; exact h2
  have sa : ([a, b].any fun | .Starred .. => true | _ => false) = false := by
    have e : (fun e : Expr => match e with | .Starred .. => true | _ => false) = starred := by
      funext e; cases e <;> rfl
    rw [e]
    simp [h5, h6]
  have hn : ([Expr.Name x px, Expr.Name y py].filterMap fun | .Name id pos => if X.env.kindOf id == some .local && pos.line == px.line then some id else none | _ => none) = [x, y] := by
    simp [kx, ky, h3]
  have hd : [x, y].eraseDups = [x, y] := by
    have hxy : (x == y) = false := by simpa using h4
    have hyx : (y == x) = false := by
      have : ¬ x = y := by simpa using h4
      simpa using fun e : y = x => this e.symm
    simp [List.eraseDups_cons, hyx]
  have hf : ([a, b].all (foldedForSure 8)) = false := by simpa [Bool.and_eq_false_iff] using h7
  have hco : ([a, b].all (constantsAlone 8)) = false := by simpa [Bool.and_eq_false_iff] using h8
  have hbk : (X.env.blockKind != ScopeKind.function) = false := by rw [O.bk]; rfl
  have c1 : ¬ ((!(([Expr.Name x px, Expr.Name y py] : List Expr).length == 2 || ([Expr.Name x px, Expr.Name y py] : List Expr).length == 3) || ([a, b] : List Expr).length != ([Expr.Name x px, Expr.Name y py] : List Expr).length || X.env.blockKind != ScopeKind.function) = true) := by
    rw [hbk]
    exact Bool.false_ne_true
  have c3 : ¬ ((([x, y] : List Str).length != ([Expr.Name x px, Expr.Name y py] : List Expr).length || ([x, y] : List Str).eraseDups.length != ([x, y] : List Str).length) = true) := by
    rw [hd]
    exact (by decide : ¬ ((2 != 2 || 2 != 2) = true))
  unfold swappedStores
  refine Eq.trans (if_neg c1) ?_
  refine Eq.trans (if_neg fun z => Bool.false_ne_true (sa.symm.trans z)) ?_
  dsimp only
  generalize hL : List.filterMap _ [Expr.Name x px, Expr.Name y py] = L
  obtain rfl : L = [x, y] := hL.symm.trans hn
  refine Eq.trans (if_neg c3) ?_
  refine Eq.trans (if_neg fun z => Bool.false_ne_true (hf.symm.trans z)) ?_
  exact if_neg fun z => Bool.false_ne_true (hco.symm.trans z)
theorem sw_other {ts : List Expr} {k : Nat} {p : Pos} {env : Env} (h : isTupE v = false) : swappedStores [.Tuple ts k p] v env = pure none := by
  cases v <;> first | rfl | exact absurd h (by simp [isTupE])
theorem sw_folded {ts vs : List Expr} {k k2 : Nat} {p p2 : Pos} {env : Env} (h : vs.all (foldedForSure 8) = true) : swappedStores [.Tuple ts k p] (.Tuple vs k2 p2) env = pure none := by
  unfold swappedStores
  dsimp only
  repeat' split
  all_goals first | rfl | (rename_i hn; exact absurd h hn) | (rename_i hn _; exact absurd h hn)
theorem sw_tup {ts : List Expr} {k l : Nat} {p : Pos} {env : Env} : swapsWithSole [.Tuple ts k p] v l env = pure false := by
  show swapsWith v (some (.Tuple ts k p)) l env = pure false
  cases v <;> rfl
def stepAsg (c : Cmp) (q : CQ) (tg v : Expr) : Sm := match tg with
  | .Name x py => if q.locB x then (match slot q.N x with
    | some i => (match v with
      | .ListComp elt [⟨tg, iter, ifs, 0⟩] scope vpos => (match stepLc c q elt tg iter ifs scope with
        | some fl => sAsg (cKeep fl) (.name i)
        | none => sFail)
      | v => if isCompr v then sFail else sAsg (c.E q v) (.name i))
    | none => sFail) else sFail
  | .Tuple ts kk pt => (match ts, v with
    | [.Name x px, .Name y py], .Tuple [a, b] _ _ =>
      if parB q x y px py a b then (match slot q.N x, slot q.N y with
        | some i, some j => sPar (stepA c q [a, b]) i j
        | _, _ => sFail)
      else if foldedForSure 8 a && foldedForSure 8 b then (match compG 9 q (.Tuple ts kk pt) with
        | some t => sAsg (c.E q v) t
        | none => sFail)
      else sFail
    | _, _ => if isTupE v then sFail else (match compG 9 q (.Tuple ts kk pt) with
      | some t => sAsg (c.E q v) t
      | none => sFail))
  | _ => sFail
theorem asg_ok (hc : Sound P g n c) (O : XOk P g n q X) : PS X (.Assign [tg] v pos) (tS g W (stepAsg c q tg v)) := by
  have hN : X.N.Nodup := by rw [O.hN]; exact O.nd
  unfold stepAsg
  split
  · rename_i x py
    split
    · rename_i hl
      obtain ⟨l1, l2⟩ := O.loc hl
      split
      · rename_i i hi
        split
        · rename_i elt tg iter ifs scope vpos
          split
          · rename_i fl h
            by_cases hs : swB q x py scope vpos = true
            · exact setLc_ok hc O h hi hs
            · exact ss_set hN (O.ix hi) l1 (s_keep (lc_ok hc O h)) (sw_false O (by simpa using hs)) l2
          · exact ss_fail
        · split
          · exact ss_fail
          · rename_i h
            exact ss_set hN (O.ix hi) l1 (hc.E O v) (sw_plain (by simpa using h)) l2
      · exact ss_fail
    · exact ss_fail
  · rename_i ts kk pt
    split
    · rename_i x px y py a b k2 p2
      split
      · rename_i hb
        split
        · rename_i i j hi hj
          have hb' := hb
          unfold parB CQ.kind at hb'
          simp only [Bool.and_eq_true, Bool.not_eq_true', beq_iff_eq] at hb'
          obtain ⟨⟨⟨⟨⟨⟨⟨h1, h2⟩, h3⟩, h4⟩, h5⟩, h6⟩, h7⟩, h8⟩ := hb'
          have hij : i ≠ j := fun z => by
            have e1 := O.ix hi
            have e2 := O.ix hj
            rw [z, e2] at e1
            have : x = y := (Option.some.inj e1).symm
            exact absurd this (by simpa using h4)
          exact ss_par O.calm hN (O.ix hi) (O.ix hj) hij (by rw [O.scope]; exact h1) (by rw [O.scope]; exact h2) (a_ok hc O _) (par_some O hb) sw_tup
        · exact ss_fail
      · split
        · rename_i hf
          split
          · rename_i t ht
            exact ss_asg (hc.E O _) (g_ok O 9 ht) sw_tup (sw_folded (by simpa using hf)) rfl
          · exact ss_fail
        · exact ss_fail
    · split
      · exact ss_fail
      · rename_i h
        split
        · rename_i t ht
          exact ss_asg (hc.E O _) (g_ok O 9 ht) sw_tup (sw_other (by simpa using h)) rfl
        · exact ss_fail
  · exact ss_fail
/-! ### statements -/
def augOf : Operator → Option (Int → Int → Int)
  | .Add => some fun i j => i + j
  | .Sub => some fun i j => i - j
  | _ => none
def stepAug (c : Cmp) (q : CQ) (x : Str) (op : Operator) (v : Expr) : Sm := if q.locB x then (match slot q.N x, augOf op with
  | some i, some F => sAug F i (c.E q v)
  | _, _ => sFail) else sFail
theorem aug_ok {py : Pos} {op : Operator} (hc : Sound P g n c) (O : XOk P g n q X) : PS X (.AugAssign (.Name x py) op v pos) (tS g W (stepAug c q x op v)) := by
  have hN : X.N.Nodup := by rw [O.hN]; exact O.nd
  unfold stepAug
  split
  · rename_i hl
    obtain ⟨l1, l2⟩ := O.loc hl
    split
    · rename_i i F hi hF
      cases op <;> simp only [augOf, Option.some.injEq, reduceCtorEq] at hF <;> subst hF
      · exact ss_aug hN (O.ix hi) l1 (hc.E O v) ip_add l2
      · exact ss_aug hN (O.ix hi) l1 (hc.E O v) ip_sub l2
    · exact ss_fail
  · exact ss_fail
def compSs (f : Stmt → Sm) : List Stmt → Sm
  | [] => sNext
  | s :: r => sSeq (f s) (compSs f r)
def compS (P : PP) (c : Cmp) (q : CQ) : Nat → Stmt → Sm
  | 0, _ => sFail
  | n + 1, s => match s with
    | .Pass _ => sNext
    | .Break _ => sBrk
    | .Continue _ => sCont
    | .Expr (.Constant (.str _) _ _) _ => sNext
    | .Expr e _ => if isCompr e then sFail else sDrop (c.E q e)
    | .Return (some e) _ => sRet (c.E q e)
    | .Return none _ => sRetN
    | .If t a b _ => sIf (c.T q t) (compSs (compS P c q n) a) (compSs (compS P c q n) b)
    | .For tg it body [] _ => if notSet it then (match compG 9 q tg with
      | some t => sFor (c.W q tg it) t (compSs (compS P c q n) body)
      | none => sFail) else sFail
    | .While t body [] _ => whileLoop (c.T q t) (compSs (compS P c q n) body) P.wf
    | .Assign [tg] v _ => stepAsg c q tg v
    | .AugAssign (.Name x _) op v _ => stepAug c q x op v
    | _ => sFail
theorem ss_ok {f : Stmt → Sm} (h : ∀ s, PS X s (tS g W (f s))) : ∀ (ss : List Stmt), PSs X ss (tS g W (compSs f ss))
  | [] => ss_nil
  | s :: r => ss_cons (h s) (ss_ok h r)
theorem s_ok (hc : Sound P g n c) (O : XOk P g n q X) (hp : PassesOwn (model X.prog X.w) X.A X.env X.xe) : ∀ (k : Nat) (s : Stmt), PS X s (tS g W (compS P c q k s))
  | 0, s => ss_fail
  | k + 1, s => by
    unfold compS
    split
    · exact ss_pass
    · exact ss_break
    · exact ss_cont
    · exact ss_doc
    · split
      · exact ss_fail
      · rename_i h
        exact ss_expr (hc.E O _) (sw_plain (by simpa using h))
    · exact ss_ret (hc.E O _)
    · exact ss_retN
    · exact ss_if (hc.T O _) (ss_ok (s_ok hc O hp k) _) (ss_ok (s_ok hc O hp k) _)
    · split
      · rename_i h
        split
        · rename_i t ht
          exact ss_for hp O.calm (hc.W O _ _) (g_ok O 9 ht) (ss_ok (s_ok hc O hp k) _) (fold_ok h)
        · exact ss_fail
      · exact ss_fail
    · exact ss_while hp (hc.T O _) (ss_ok (s_ok hc O hp k) _)
    · exact asg_ok hc O
    · exact aug_ok hc O
    · exact ss_fail
end
end PyI

/-! PyI21: a module's defs, level by level; the script's list. -/
namespace PyI
open L2 PySem PySem.Spec PyProof.Rows

/-- a def as it is read: parameters, slots, defaults, does it make generators -/
structure FI where
  ps : List Str
  N : List Str
  ds : List PV
  params : Arguments
  body : List Stmt
  sc : Scope
  gen : Bool
/-- a module as it is read -/
structure PR where
  fns : List (Str × FI)
  cn : List (Str × PV)
  kd : List (Str × List (Str × PV))
  fr : List Str
  wf : Nat
def PR.pp (R : PR) (cl : Str → List PV → M PV) : PP where
  cl := cl
  ar := fun x => match R.fns.lookup x with
    | some f => some (f.ps.length, f.ds)
    | none => none
  cn := fun x => R.cn.lookup x
  kd := fun x => R.kd.lookup x
  fr := fun x => R.fr.contains x
  wf := R.wf
def FI.q (f : FI) : CQ := ⟨f.N, f.sc, fun _ => true, f.gen⟩
def FI.run (f : FI) (P : PP) : Sm := compSs (compS P (comp P 40) f.q 40) f.body
def FI.den (f : FI) (P : PP) : List PV → M PV := fun xs => callP (f.run P (startP f.N.length xs))
/-- what the defs do, n calls deep -/
def PR.den (R : PR) : Nat → Str → List PV → M PV
  | 0, _, _ => M.fail
  | n + 1, x, xs => match R.fns.lookup x with
    | some f => f.den (R.pp (R.den n)) xs
    | none => M.fail
/-- how a def stands in the written part -/
structure FnF (g : Gd) (mg : Str → Option Value) (base : Heap) (x : Str) (f : FI) (fa : Addr) (fd : FuncData) : Prop where
  at_ : ∃ (oc : Value) (od : Option Addr) (dV kV doc pm : Value) (an : Option Addr) (cdv ct : Value) (osl : Array (Option Value)),
    fd = PySem.W.fnOf x x f.params f.body f.sc dV kV doc pm an cdv ct ∧ g.K.lookup fa = some ⟨oc, od, .func fd, osl⟩ ∧ PySem.W.codeIn g.K cdv x = true ∧ (f.gen = true → ∃ c P, cdv = .ref c ∧ GxR.TabB base mg c P ∧ P ∈ g.tabs)
  sc : FnScope f.N f.ps f.sc
  mg : mg x = some (.ref fa)
  kp : PySem.W.keepIn g.K (.ref fa) = true
  bind : ∃ dvs dus, Binds g.K fd f.ps dus ∧ Vals dvs dus ∧ ∀ ρ H, RepL g ρ H dvs f.ds
/-- the module, as K and mg tell it -/
structure ModOk (R : PR) (g : Gd) (prog : Program) (w : World) (mg : Str → Option Value) (base : Heap) : Prop where
  fr : ∀ x, R.fr.contains x = true → mg x = none
  cn : ∀ x d, R.cn.lookup x = some d → ∃ u v, mg x = some u ∧ RelV v u ∧ ∀ ρ H, RepV g ρ H v d
  kd : ∀ x kvs, R.kd.lookup x = some kvs → mg x = some (.ref (g.kda x)) ∧ ∀ X : Cx, X.K = g.K → X.w = w → KdS g X x kvs
  fna : ∀ x f, R.fns.lookup x = some f → mg x = some (.ref (g.fna x))
  fn : ∀ x f, R.fns.lookup x = some f → ∃ fa fd, FnF g mg base x f fa fd
section
variable {R : PR} {g : Gd} {prog : Program} {w : World} {mg : Str → Option Value} {base : Heap}
theorem fn_level (Mo : ModOk R g prog w mg base) : ∀ (n : Nat) (x : Str) (f : FI) (fa : Addr) (fd : FuncData), R.fns.lookup x = some f → FnF g mg base x f fa fd → FnOk prog w g.K mg base CX0 (4 * n) fa fd f.ps (spI g f.ps.length (R.den n x))
  | 0, x, f, fa, fd, hx, F => ⟨fun vs H Q E h => h.1, fun A outer s H args us vs Q E hr he hb hv hs => by
      obtain ⟨_, _, _, _, _, _, h⟩ := hs
      exact h.elim⟩
  | n + 1, x, f, fa, fd, hx, F => by
    obtain ⟨oc, od, dV, kV, doc, pm, an, cdv, ct, osl, rfl, lk, hcd, hgen⟩ := F.at_
    show FnOk prog w g.K mg base CX0 (4 * n + 3 + 1) _ _ f.ps _
    refine fn_of lk hcd F.sc (fun vs H Q E h => h.1) fun A outer s H vs Q E hr h => ?_
    have hden : R.den (n + 1) x = f.den (R.pp (R.den n)) := by
      funext xs
      show (match R.fns.lookup x with | some f => f.den (R.pp (R.den n)) xs | none => M.fail) = _
      rw [hx]
    rw [hden] at h
    have O : XOk (R.pp (R.den n)) g (4 * n) f.q (cxOf CX0 prog w g.K mg base f.N x f.sc fa cdv A outer s H E).nox := {
      hK := rfl
      hN := rfl
      nd := F.sc.nd
      calm := rfl
      scope := rfl
      kind := F.sc.kind
      fn := rfl
      room := hr.mono (by omega)
      rmG := fun _ => hr
      cod := fun hc => by
        obtain ⟨c, P, e, h1, h2⟩ := hgen hc
        exact ⟨c, P, e, h1, h2⟩
      fr := Mo.fr
      cn := Mo.cn
      kd := fun y kvs hy => ⟨(Mo.kd y kvs hy).1, (Mo.kd y kvs hy).2 _ rfl rfl⟩
      fna := fun y m ds hy => by
        have hy' : (match R.fns.lookup y with | some f => some (f.ps.length, f.ds) | none => none) = some (m, ds) := hy
        cases q : R.fns.lookup y with
        | none => rw [q] at hy'; cases hy'
        | some f' => exact Mo.fna y f' q
      cl := fun y m ds hy => by
        have hy' : (match R.fns.lookup y with | some f => some (f.ps.length, f.ds) | none => none) = some (m, ds) := hy
        cases q : R.fns.lookup y with
        | none => rw [q] at hy'; cases hy'
        | some f' =>
          rw [q] at hy'
          cases hy'
          obtain ⟨fa', fd', F'⟩ := Mo.fn y f' q
          obtain ⟨dvs, dus, b1, b2, b3⟩ := F'.bind
          exact ⟨fa', fd', f'.ps, dvs, dus, fn_level Mo n y f' fa' fd' q F', F'.mg, F'.kp, b1, b2, b3⟩ }
    obtain ⟨t, ht, hq⟩ := body_of (X := (cxOf CX0 prog w g.K mg base f.N x f.sc fa cdv A outer s H E).nox) (body := f.run (R.pp (R.den n))) (ss := f.body) (E := E) h (ss_ok (s_ok (comp_ok 40) O PassesOwn.never 40) f.body)
    exact ⟨t, ht.nox, hq⟩
end
end PyI

/-! PyI22: the script's list. -/
namespace PyI
open L2 PySem PySem.Spec PyProof.Rows
section
variable {g : Gd} {prog : Program} {w : World} {mg : Str → Option Value} {base : Heap} {k : Nat} {fa : Addr} {fd : FuncData} {x : Str} {F : List PV → M PV}
/-- what the law promises of a script -/
def spS (g : Gd) (F : List PV → M PV) : Sp := fun vs H Q _ => ∃ (a : Addr) (ns : List Int), vs = [.ref a] ∧ SqL g.K H a (ns.map V.int) ∧ (∀ P ∈ g.tabs, GxR.TabG H P) ∧ (∃ st, F [.ilst (ns.map PV.int)] [] = .ok (.bl true) st) ∧ ∀ H', Q (.bl true) H'
theorem script_of {a : Addr} {ns : List Int} {H : Hp} {Q : VK} {E : XK} (h1 : SqI g.K H a (ns.map V.int)) (h2 : ∀ P ∈ g.tabs, GxR.TabG H P) (h3 : ∃ st, F [.ilst (ns.map PV.int)] [] = .ok (.bl true) st) (h4 : ∀ H', Q (.bl true) H') : spI g 1 F [.ref a] H Q E := by
  obtain ⟨st, e⟩ := h3
  refine ⟨rfl, [], [], [.ilst (ns.map PV.int)], ⟨rfl, List.nodup_nil, fun n a ob h => by simp at h, h2⟩, .cons (.ilst h1 (RepL.ints ns)) .nil, ?_⟩
  rw [e]
  intro ρ' H' _ _ v hv
  cases hv
  exact h4 H'
theorem fn_script (FO : FnOk prog w g.K mg base CX0 k fa fd [x] (spI g 1 F)) : FnOk prog w g.K mg base CX0 k fa fd [x] (spS g F) := by
  refine ⟨fun vs H Q E ⟨a, ns, e, _⟩ => by rw [e]; rfl, fun A outer s H args us vs Q E hr he hb hv hs => ?_⟩
  obtain ⟨a, ns, rfl, hq, ht, hF, hQ⟩ := hs
  rcases hq with (hq | ⟨o, hq⟩) | hq
  · -- the list is known to be written: for this call it is held as it is
    obtain ⟨z, its, nn, rv, ho⟩ := he.hok a _ hq
    generalize hob : ({ cls := .type "list", data := .seq its.toArray nn } : Obj) = ob at ho
    have at_ : ∀ b, b ≠ a → upd H a (.frz ob (.lst (ns.map V.int))) b = H b := fun b hb => upd_ne hb
    have neN : ∀ b, H b = none → b ≠ a := fun b e z => by rw [z, hq] at e; cases e
    have hok2 : HOk prog w (upd H a (.frz ob (.lst (ns.map V.int)))) s.heap := fun b u e => by
      by_cases hb : b = a
      · subst hb
        rw [upd_same] at e
        cases e
        refine ⟨ho, ?_⟩
        exact ⟨z, its, nn, rv, by rw [hob]; exact ho⟩
      · rw [at_ b hb] at e
        exact (he.hok b u e).stay (fun _ _ _ q => q) (fun c q => by rw [at_ c (fun z => by rw [z, hq] at q; cases q)]; exact q) fun c xs q => by rw [at_ c (fun z => by rw [z, hq] at q; cases q)]; exact q
    have he2 : Env0 prog w g.K mg base A outer s (upd H a (.frz ob (.lst (ns.map V.int)))) :=
      ⟨he.frames, he.mod, fun b o e => ⟨(he.bs b o e).1, by rw [at_ b (neN b (he.bs b o e).2)]; exact (he.bs b o e).2⟩, he.bsz, he.funs, fun b hb => by rw [at_ b (neN b (he.frf b hb))]; exact he.frf b hb, hok2, he.bare⟩
    have ht2 : ∀ P ∈ g.tabs, GxR.TabG (upd H a (.frz ob (.lst (ns.map V.int)))) P := fun P hP => by
      obtain ⟨ps, e, t⟩ := ht P hP
      exact ⟨ps, by rw [at_ P (fun z => by rw [z, hq] at e; cases e)]; exact e, t⟩
    refine codeAny_mono (FO.run A outer s _ args us [.ref a] (fun v _ => v = .bl true) E hr he2 hb hv (script_of (.inl ⟨ob, upd_same⟩) ht2 hF fun _ => rfl)) fun r s' hr' => ?_
    cases r with
    | error e => exact hr'
    | ok fl =>
      cases fl with
      | ret u =>
        obtain ⟨v, H', q1, q2, un, q4, q5, rfl⟩ := hr'
        refine ⟨_, H', q1, q2, ⟨fun b o e n => un.keep b o e (by rw [at_ b (neN b n)]; exact n), fun b o e n => un.slot b o e (by rw [at_ b (neN b n)]; exact n), fun b o e n => un.free b o e (by rw [at_ b (neN b n)]; exact n), un.there,
          fun b xs e => un.tups b xs (by rw [at_ b (fun z => by rw [z, hq] at e; cases e)]; exact e), fun b o u e => un.frzs b o u (by rw [at_ b (fun z => by rw [z, hq] at e; cases e)]; exact e), fun b ps e => un.tbls b ps (by rw [at_ b (fun z => by rw [z, hq] at e; cases e)]; exact e)⟩, q4, q5, hQ H'⟩
      | next => exact hr'
      | brk => exact hr'
      | cont => exact hr'
  · exact FO.run A outer s H args us [.ref a] Q E hr he hb hv (script_of (.inl ⟨o, hq⟩) ht hF hQ)
  · exact FO.run A outer s H args us [.ref a] Q E hr he hb hv (script_of (.inr hq) ht hF hQ)
end
end PyI

/-! PyI23: what the head tells, turned to the module as it is read. -/
namespace PyI
open L2 PySem PySem.Spec PyProof.Rows

/-- a value as the layer has it -/
def valV : Value → V
  | .bool b => .bl b
  | .int i _ => .int i
  | .str x _ => .str x
  | .ref a => .ref a
  | _ => .non
mutual
/-- the value u is d, by the written part -/
def cvB (K : PySem.W.Frag) : PV → Value → Bool
  | .non, .none => true
  | .bl a, .bool b => a == b
  | .int a, .int b _ => a == b
  | .str a, .str b _ => a == b
  | .ctup xs, .ref a => match K.lookup a with
    | some ⟨.type c, _, .seq its _, _⟩ => c == "tuple" && decide (its.size ≤ sizeLine) && cvBs K xs its.toList
    | _ => false
  | _, _ => false
def cvBs (K : PySem.W.Frag) : List PV → List Value → Bool
  | [], [] => true
  | d :: ds, u :: us => cvB K d u && cvBs K ds us
  | _, _ => false
end
section
variable {g : Gd}
mutual
theorem cv_ok : ∀ (d : PV) (u : Value), cvB g.K d u = true → RelV (valV u) u ∧ ∀ ρ H, RepV g ρ H (valV u) d
  | .non, u, h => by
    cases u <;> first | exact ⟨rfl, fun _ _ => .non⟩ | cases h
  | .bl a, u, h => by
    cases u <;> first | cases h | skip
    rename_i b
    rw [eq_of_beq (show (a == b) = true from h)]
    exact ⟨rfl, fun _ _ => .bl b⟩
  | .int a, u, h => by
    cases u <;> first | cases h | skip
    rename_i b t
    rw [eq_of_beq (show (a == b) = true from h)]
    exact ⟨⟨t, rfl⟩, fun _ _ => .int b⟩
  | .str a, u, h => by
    cases u <;> first | cases h | skip
    rename_i b t
    rw [eq_of_beq (show (a == b) = true from h)]
    exact ⟨⟨t, rfl⟩, fun _ _ => .str b⟩
  | .ctup xs, u, h => by
    cases u <;> first | cases h | skip
    rename_i a
    have h2 : (match g.K.lookup a with
      | some ⟨.type c, _, .seq its _, _⟩ => c == "tuple" && decide (its.size ≤ sizeLine) && cvBs g.K xs its.toList
      | _ => false) = true := h
    split at h2
    · rename_i c od its n osl q
      simp only [Bool.and_eq_true, decide_eq_true_eq] at h2
      obtain ⟨⟨h3, h4⟩, h5⟩ := h2
      obtain ⟨r1, r2⟩ := cvs_ok xs its.toList h5
      exact ⟨rfl, fun ρ H => .ctup ⟨_, its, n, q, by rw [eq_of_beq h3], rfl, h4, r1⟩ (r2 ρ H)⟩
    · cases h2
  | .tup _, u, h => by cases u <;> cases h
  | .ilst _, u, h => by cases u <;> cases h
  | .obj _, u, h => by cases u <;> cases h
  | .fn _, u, h => by cases u <;> cases h
  | .kd _, u, h => by cases u <;> cases h
theorem cvs_ok : ∀ (ds : List PV) (us : List Value), cvBs g.K ds us = true → Vals (us.map valV) us ∧ ∀ ρ H, RepL g ρ H (us.map valV) ds
  | [], us, h => by
    cases us with
    | nil => exact ⟨.nil, fun _ _ => .nil⟩
    | cons _ _ => cases h
  | d :: ds, us, h => by
    cases us with
    | nil => cases h
    | cons u us =>
      have h2 : (cvB g.K d u && cvBs g.K ds us) = true := h
      rw [Bool.and_eq_true] at h2
      obtain ⟨a1, a2⟩ := cv_ok d u h2.1
      obtain ⟨b1, b2⟩ := cvs_ok ds us h2.2
      exact ⟨.cons a1 b1, fun ρ H => .cons (a2 ρ H) (b2 ρ H)⟩
end
end
/-- the constants of the module -/
def cnB (R : PR) (K : PySem.W.Frag) : Bool := R.cn.all fun p => match PySem.W.nsIn K mainGlobals p.1 with
  | some (some u) => cvB K p.2 u
  | _ => false
/-- its written dicts: no other keys, the values -/
def kdKeys (K : PySem.W.Frag) (a : Addr) (kvs : List (Str × PV)) : Bool := match K.lookup a with
  | some ⟨_, _, .dict es _, _⟩ => es.toList.all fun e => !e.refKey && (match e.key with
    | .str x _ => (kvs.lookup x).isSome
    | _ => false)
  | _ => false
def kdB (R : PR) (K : PySem.W.Frag) : Bool := R.kd.all fun p => kdKeys K (He.ga K p.1) p.2 && p.2.all fun q => match PySem.W.nsIn K (He.ga K p.1) q.1 with
  | some (some u) => cvB K q.2 u
  | _ => false
theorem lookup_in {α : Type} {x : Str} {d : α} : ∀ {l : List (Str × α)}, l.lookup x = some d → (x, d) ∈ l
  | [], h => by cases h
  | (y, e) :: r, h => by
    rw [List.lookup_cons] at h
    cases q : (x == y) with
    | true =>
      rw [q] at h
      cases h
      rw [eq_of_beq q]
      exact List.mem_cons_self
    | false =>
      rw [q] at h
      exact List.mem_cons_of_mem _ (lookup_in h)
theorem kd_none {K : PySem.W.Frag} {a : Addr} {kvs : List (Str × PV)} {z : Str} (h : kdKeys K a kvs = true) (hz : kvs.lookup z = none) : PySem.W.nsIn K a z = some none := by
  unfold kdKeys at h
  unfold PySem.W.nsIn
  split at h
  · rename_i es n sl q
    rw [q]
    have key : ∀ e ∈ es.toList, e.refKey = false ∧ e.key.isStr z = false := fun e he => by
      have h1 := List.all_eq_true.mp h e he
      simp only [Bool.and_eq_true, Bool.not_eq_true'] at h1
      refine ⟨h1.1, ?_⟩
      have h2 := h1.2
      split at h2
      · rename_i x t ek
        rw [ek]
        cases qs : Value.isStr (.str x t) z with
        | false => rfl
        | true =>
          have : x = z := by simpa [Value.isStr] using qs
          rw [this, hz] at h2
          cases h2
      · cases h2
    have e1 : es.toList.find? (·.key.isStr z) = none := List.find?_eq_none.mpr fun e he => by rw [(key e he).2]; exact Bool.false_ne_true
    have e2 : es.toList.any (·.refKey) = false := List.any_eq_false.mpr fun e he => by rw [(key e he).1]; exact Bool.false_ne_true
    simp only [e1, e2]
    rfl
  · cases h
/-- what is asked of the head beside its own facts -/
def exB (R : PR) (K : PySem.W.Frag) : Bool := cnB R K && kdB R K
def PR.tabs (R : PR) : List He.Tab := R.kd.map fun p => (fun K => He.ga K p.1, p.2.map (·.1))
def dvOf : PV → He.Dv
  | .bl b => .bl b
  | .int i => .int i
  | .str s => .str s
  | _ => .non
def PR.defs (R : PR) : List He.DefD := R.fns.map fun p => ⟨(p.1, none), p.1, p.1, p.2.params, p.2.body, p.2.sc, p.2.ds.map dvOf, []⟩
def PR.gens (R : PR) : List He.Defn := (R.fns.filter (·.2.gen)).map fun p => (p.1, none)
def PR.facts (R : PR) : List He.Fa := R.fns.map (fun p => .glo p.1) ++ R.kd.map (fun p => .glo p.1) ++ R.fr.map .free
def gdOf (R : PR) (K : PySem.W.Frag) : Gd := ⟨K, R.gens.map fun p => (He.cT K p).2, He.ga K, He.ga K, He.ga K⟩
end PyI

/-! PyI24: the law at the head's heap. -/
namespace PyI
open L2 PySem PySem.Spec PyProof.Rows
/-- what a def's text must be -/
structure TextOk (f : FI) (x : Str) : Prop where
  sc : FnScope f.N f.ps f.sc
  ds : f.ds = []
  bind : ∀ (kV doc pm : Value) (an : Option Addr) (cdv ct : Value) (us : List Value), us.length = f.ps.length → bindArgs (PySem.W.fnOf x x f.params f.body f.sc .none kV doc pm an cdv ct) ⟨us, []⟩ = pure (f.ps.zip us)
section
variable {R : PR} {w : World} {h : Heap} {K : PySem.W.Frag} {mg : Str → Option Value} {fa : Addr} {prog : Program}
theorem fact_of (c : He.SaysX R.facts R.defs R.tabs R.gens (exB R) w h K) {f : He.Fa} (hf : f ∈ R.facts) : f.ok K = true := c.t.d.facts hf
theorem glo_of (X : K.In h) (G : h.Ns mainGlobals mg) (c : He.SaysX R.facts R.defs R.tabs R.gens (exB R) w h K) {x : Str} (hx : He.Fa.glo x ∈ R.facts) : mg x = some (.ref (He.ga K x)) := He.glo_ok X G (fact_of c hx)
theorem fns_glo {x : Str} {f : FI} (hx : R.fns.lookup x = some f) : He.Fa.glo x ∈ R.facts := by
  unfold PR.facts
  refine List.mem_append_left _ (List.mem_append_left _ ?_)
  exact List.mem_map.mpr ⟨(x, f), lookup_in hx, rfl⟩
theorem kd_glo {x : Str} {f : List (Str × PV)} (hx : R.kd.lookup x = some f) : He.Fa.glo x ∈ R.facts := by
  unfold PR.facts
  refine List.mem_append_left _ (List.mem_append_right _ ?_)
  exact List.mem_map.mpr ⟨(x, f), lookup_in hx, rfl⟩
theorem fr_free {x : Str} (hx : R.fr.contains x = true) : He.Fa.free x ∈ R.facts := by
  unfold PR.facts
  refine List.mem_append_right _ ?_
  exact List.mem_map.mpr ⟨x, List.contains_iff_mem.mp hx, rfl⟩
theorem funD_of (c : He.SaysX R.facts R.defs R.tabs R.gens (exB R) w h K) {x : Str} {f : FI} (hx : R.fns.lookup x = some f) (hd : f.ds = []) : ∃ fd, FunD K x x f.params f.body f.sc [] [] (He.ga K x) fd := by
  have hm : (⟨(x, none), x, x, f.params, f.body, f.sc, f.ds.map dvOf, []⟩ : He.DefD) ∈ R.defs := List.mem_map.mpr ⟨(x, f), lookup_in hx, rfl⟩
  obtain ⟨fd, F⟩ := c.t.d.defs hm
  refine ⟨fd, ?_⟩
  have e : (He.DefD.dvs K ⟨(x, none), x, x, f.params, f.body, f.sc, f.ds.map dvOf, []⟩) = [] := by unfold He.DefD.dvs; rw [hd]; rfl
  rw [e] at F
  exact F
theorem fnF_of (X : K.In h) (G : h.Ns mainGlobals mg) (c : He.SaysX R.facts R.defs R.tabs R.gens (exB R) w h K) {x : Str} {f : FI} {fd : FuncData} (hx : R.fns.lookup x = some f) (T : TextOk f x) (F : FunD K x x f.params f.body f.sc [] [] (He.ga K x) fd) {base : Heap} (TB : ∀ p ∈ R.gens.map (He.cT K), GxR.TabB base mg p.1 p.2) :
    FnF (gdOf R K) mg base x f (He.ga K x) fd := by
  have hb : Binds K fd f.ps [] := F.bindsN T.bind
  refine ⟨?_, T.sc, glo_of X G c (fns_glo hx), F.kp, [], [], hb, .nil, fun ρ H => by rw [T.ds]; exact .nil⟩
  obtain ⟨oc, od, dV, kV, doc, pm, an, cdv, ct, osl, e, lk, hcd, _, _⟩ := F.ex
  refine ⟨oc, od, dV, kV, doc, pm, an, cdv, ct, osl, e, lk, hcd, fun hg => ?_⟩
  obtain ⟨cc, rfl⟩ := He.codeIn_ref hcd
  have hm : ((x, none) : He.Defn) ∈ R.gens := List.mem_map.mpr ⟨(x, f), List.mem_filter.mpr ⟨lookup_in hx, hg⟩, rfl⟩
  have ec : (He.cT K (x, none)).1 = cc := He.codeOf_eq (p := (x, none)) lk (by rw [e])
  have tb := TB _ (List.mem_map.mpr ⟨(x, none), hm, rfl⟩)
  rw [ec] at tb
  exact ⟨cc, _, rfl, tb, List.mem_map.mpr ⟨(x, none), hm, rfl⟩⟩
theorem mod_of (X : K.In h) (G : h.Ns mainGlobals mg) (c : He.SaysX R.facts R.defs R.tabs R.gens (exB R) w h K) (T : ∀ x f, R.fns.lookup x = some f → TextOk f x) {base : Heap} (TB : ∀ p ∈ R.gens.map (He.cT K), GxR.TabB base mg p.1 p.2) : ModOk R (gdOf R K) prog w mg base := by
  obtain ⟨m1, m2⟩ := He.ba (show (cnB R K && kdB R K) = true from c.more)
  refine ⟨fun x hx => He.free_ok X G (fact_of c (fr_free hx)), fun x d hx => ?_, fun x kvs hx => ⟨glo_of X G c (kd_glo hx), fun Y hY hw => ⟨?_, fun z => ?_⟩⟩, fun x f hx => glo_of X G c (fns_glo hx), fun x f hx => ?_⟩
  · have h1 := List.all_eq_true.mp m1 _ (lookup_in hx)
    split at h1
    · rename_i u q
      obtain ⟨a1, a2⟩ := cv_ok (g := gdOf R K) d u h1
      exact ⟨u, valV u, PySem.W.mg_of X G q, a1, a2⟩
    · cases h1
  · have hm : ((fun K => He.ga K x, kvs.map (·.1)) : He.Tab) ∈ R.tabs := List.mem_map.mpr ⟨(x, kvs), lookup_in hx, rfl⟩
    obtain ⟨i, hi, e⟩ := List.mem_iff_getElem.mp hm
    obtain ⟨es, n, D⟩ := c.t.tab i (t := (fun K => He.ga K x, kvs.map (·.1))) (by rw [List.getElem?_eq_getElem hi, e])
    exact ⟨es, n, by rw [hY, hw]; exact D⟩
  · have h1 := List.all_eq_true.mp m2 _ (lookup_in hx)
    rw [Bool.and_eq_true] at h1
    split
    · rename_i d q
      have h2 := List.all_eq_true.mp h1.2 _ (lookup_in q)
      split at h2
      · rename_i u q2
        obtain ⟨a1, a2⟩ := cv_ok (g := gdOf R K) d u h2
        exact ⟨u, valV u, by rw [hY]; exact q2, a1, a2⟩
      · cases h2
    · rename_i q
      rw [hY]
      exact kd_none h1.1 q
  · obtain ⟨fd, F⟩ := funD_of c hx (T x f hx).ds
    exact ⟨_, fd, fnF_of X G c hx (T x f hx) F TB⟩
/-- the law's promise at the head's heap -/
theorem law_at {l : PySem.W.OpenLaw} {k n : Nat} {f : FI} (X : K.In h) (G : h.Ns mainGlobals mg) (c : He.SaysX R.facts R.defs R.tabs R.gens (exB R) w h K) (T : ∀ x f, R.fns.lookup x = some f → TextOk f x) (hl : R.fns.lookup ("law" : Str) = some f) (hps : f.ps = [("script" : Str)]) (hfa : mg ("law" : Str) = some (.ref fa))
    (law : ∀ ns : List Int, ns.length ≤ n → (∀ z ∈ ns, Builtin.Int.intBits z ≤ 1048576) → ∃ st, R.den k "law" [.ilst (ns.map PV.int)] [] = .ok (.bl true) st) : LamX.LawAtS l w K CX0 (4 * k) n "script" mg fa h := by
  obtain ⟨fd, F⟩ := funD_of c hl (T _ f hl).ds
  have e := hfa.symm.trans (glo_of X G c (fns_glo hl))
  cases e
  have Th := T _ f hl
  have b := FunD.bindsA (ps := f.ps) F Th.bind
  refine ⟨fd, R.gens.map (He.cT K), spS (gdOf R K) (R.den k "law"), fun p hp => ?_, fun p hp => ?_, fun p hp => ?_, fun s u => ?_, fun H a ns hlen hbits hH hS => ?_, fun base hK hns TB => ?_⟩
  · obtain ⟨q, hq, rfl⟩ := List.mem_map.mp hp
    exact c.empty q hq
  · obtain ⟨q, hq, rfl⟩ := List.mem_map.mp hp
    exact c.out q hq
  · obtain ⟨q, hq, rfl⟩ := List.mem_map.mp hp
    exact PySem.W.codeHd_of_K X (c.hd q hq)
  · have := b s [u] (by rw [hps]; rfl)
    rw [hps] at this
    exact this
  · refine ⟨a, ns, rfl, hS, fun P hP => ?_, law ns hlen hbits, fun _ => rfl⟩
    obtain ⟨q, hq, rfl⟩ := List.mem_map.mp (show P ∈ R.gens.map fun p => (He.cT K p).2 from hP)
    exact ⟨#[], hH _ (List.mem_map.mpr ⟨q, hq, rfl⟩), by first | trivial | decide | constructor⟩
  · have TB' : ∀ p ∈ R.gens.map (He.cT K), GxR.TabB base mg p.1 p.2 := fun p hp => ⟨(TB p hp).code, (TB p hp).bm, (TB p hp).gP⟩
    have FF := fnF_of X G c hl Th F TB'
    have FO := fn_level (prog := l.prog) (mod_of X G c T TB') k "law" f _ fd hl FF
    rw [hps] at FO
    exact fn_script (g := gdOf R K) FO
end
end PyI

/-! PyP1: the plain reading at work. -/
namespace PyI
open PySem
/-! ### results -/
@[simp] theorem bind_ok' {α β : Type} (k : α → M β) (m : M α) (st st' : Store) (a : α) (h : m st = .ok a st') : (m >>= k) st = k a st' := bind_ok h
theorem bind_run {α β : Type} (m : M α) (k : α → M β) (st : Store) : (m >>= k) st = (match m st with
  | .ok a st' => k a st'
  | .ex e st' => .ex e st'
  | .no => .no) := rfl
theorem ite_run {α : Type} (c : Prop) [Decidable c] (a b : M α) (st : Store) : (if c then a else b) st = if c then a st else b st := by split <;> rfl
@[simp] theorem gc_same (st : Store) (d : PV) : gcP st d st = st := by unfold gcP; split <;> rfl
theorem gc_app {st t : Store} {d : PV} (h : d.bound st.length = true) : gcP st d (st ++ t) = st := by
  unfold gcP
  rw [if_pos ⟨h, by simp⟩]
theorem gc_app2 {st t u : Store} {d : PV} (h : d.bound st.length = true) : gcP st d (st ++ t ++ u) = st := by
  rw [List.append_assoc]; exact gc_app h
theorem call_ret {m : M Fl} {st st' : Store} {d : PV} (h : m st = .ok (.ret d) st') : callP m st = .ok d (gcP st d st') := by unfold callP; rw [h]
theorem call_nx {m : M Fl} {st st' : Store} {env : EnvP} (h : m st = .ok (.nx env) st') : callP m st = .ok .non (gcP st .non st') := by unfold callP; rw [h]
/-! ### statements -/
theorem seq_nx {a b : Sm} {env env' : EnvP} {st st' : Store} (h : a env st = .ok (.nx env') st') : sSeq a b env st = b env' st' := by
  show ((a env >>= _) st) = _
  rw [bind_ok h]
theorem seq_ret {a b : Sm} {env : EnvP} {st st' : Store} {d : PV} (h : a env st = .ok (.ret d) st') : sSeq a b env st = .ok (.ret d) st' := by
  show ((a env >>= _) st) = _
  rw [bind_ok h] <;> rfl
theorem seq_cont {a b : Sm} {env env' : EnvP} {st st' : Store} (h : a env st = .ok (.cont env') st') : sSeq a b env st = .ok (.cont env') st' := by
  show ((a env >>= _) st) = _
  rw [bind_ok h] <;> rfl
theorem ret_ok {f : Dn} {env : EnvP} {st st' : Store} {d : PV} (h : f env st = .ok d st') : sRet f env st = .ok (.ret d) st' := bind_ok h
theorem if_t {c : Tn} {a b : Sm} {env : EnvP} {st st' : Store} (h : c env st = .ok true st') : sIf c a b env st = a env st' := by
  show ((c env >>= _) st) = _
  rw [bind_ok h] <;> rfl
theorem if_f {c : Tn} {a b : Sm} {env : EnvP} {st st' : Store} (h : c env st = .ok false st') : sIf c a b env st = b env st' := by
  show ((c env >>= _) st) = _
  rw [bind_ok h] <;> rfl
theorem asg_name {f : Dn} {i : Nat} {env : EnvP} {st st' : Store} {d : PV} (h : f env st = .ok d st') : sAsg f (.name i) env st = .ok (.nx (env.set i (some d))) st' := by
  show ((f env >>= _) st) = _
  rw [bind_ok h] <;> rfl
theorem drop_ok {f : Dn} {env : EnvP} {st st' : Store} {d : PV} (h : f env st = .ok d st') : sDrop f env st = .ok (.nx env) st' := bind_ok h
/-! ### expressions -/
theorem var_ok {i : Nat} {env : EnvP} {st : Store} {d : PV} (h : env[i]? = some (some d)) : cVar i env st = .ok d st := by unfold cVar; rw [h]
@[simp] theorem c_ok {d : PV} {env : EnvP} {st : Store} : cC d env st = .ok d st := rfl
theorem bin_ok {F : PV → PV → M PV} {fa fb : Dn} {env : EnvP} {st st1 st2 : Store} {a b : PV} (ha : fa env st = .ok a st1) (hb : fb env st1 = .ok b st2) : cBin F fa fb env st = F a b st2 := by
  show ((fa env >>= _) st) = _
  rw [bind_ok ha]
  exact bind_ok hb
theorem un_ok {F : PV → M PV} {fa : Dn} {env : EnvP} {st st1 : Store} {a : PV} (ha : fa env st = .ok a st1) : cUn F fa env st = F a st1 := bind_ok ha
@[simp] theorem args_nil_ok {env : EnvP} {st : Store} : cArgs [] env st = .ok [] st := rfl
theorem args_cons_ok {f : Dn} {fs : List Dn} {env : EnvP} {st st1 st2 : Store} {a : PV} {r : List PV} (ha : f env st = .ok a st1) (hr : cArgs fs env st1 = .ok r st2) : cArgs (f :: fs) env st = .ok (a :: r) st2 := by
  show ((f env >>= _) st) = _
  rw [bind_ok ha]
  show ((cArgs fs env >>= _) st1) = _
  rw [bind_ok hr] <;> rfl
theorem app_ok {F : List PV → M PV} {fs : Ln} {env : EnvP} {st st1 : Store} {xs : List PV} (h : fs env st = .ok xs st1) : cApp F fs env st = F xs st1 := bind_ok h
theorem call_ok' {n : Nat} {F : List PV → M PV} {fs : Ln} {env : EnvP} {st st1 st2 : Store} {xs : List PV} {d : PV} (h : fs env st = .ok xs st1) (hl : xs.length = n) (hF : F xs st1 = .ok d st2) : cCall n F [] fs env st = .ok d st2 := by
  show ((fs env >>= _) st) = _
  rw [bind_ok h, List.append_nil, if_pos hl]
  exact noEx_ok hF
theorem tup_ok {fs : Ln} {env : EnvP} {st st1 : Store} {xs : List PV} (h : fs env st = .ok xs st1) (hl : xs.length ≤ sizeLine) : cTup fs env st = .ok (.tup xs) st1 := by
  show ((fs env >>= _) st) = _
  rw [bind_ok h, if_pos hl] <;> rfl
theorem lst_ok {fs : Ln} {env : EnvP} {st st1 : Store} {xs : List PV} (h : fs env st = .ok xs st1) (hl : xs.length ≤ sizeLine) : cLst fs env st = .ok xs st1 := by
  show ((fs env >>= _) st) = _
  rw [bind_ok h, if_pos hl] <;> rfl
theorem keep_ok {fl : Ln} {env : EnvP} {st st1 : Store} {xs : List PV} (h : fl env st = .ok xs st1) : cKeep fl env st = .ok (.obj st1.length) (st1 ++ [.lst xs]) := by
  show ((fl env >>= _) st) = _
  rw [bind_ok h] <;> rfl
theorem test_ok {f : Dn} {env : EnvP} {st st1 : Store} {b : Bool} (h : f env st = .ok (.bl b) st1) : cTest f env st = .ok b st1 := by
  show ((f env >>= _) st) = _
  rw [bind_ok h] <;> rfl
theorem truth_ok {f : Dn} {env : EnvP} {st st1 : Store} {b : Bool} (h : f env st = .ok (.bl b) st1) : cTruth f env st = .ok b st1 := by
  show ((f env >>= _) st) = _
  rw [bind_ok h] <;> rfl
theorem not_ok {f : Tn} {env : EnvP} {st st1 : Store} {b : Bool} (h : f env st = .ok b st1) : cNotT f env st = .ok (!b) st1 := bind_ok h
theorem ifE_t {α : Type} {c : Tn} {a b : EnvP → M α} {env : EnvP} {st st' : Store} (h : c env st = .ok true st') : cIf c a b env st = a env st' := by
  show ((c env >>= _) st) = _
  rw [bind_ok h] <;> rfl
theorem ifE_f {α : Type} {c : Tn} {a b : EnvP → M α} {env : EnvP} {st st' : Store} (h : c env st = .ok false st') : cIf c a b env st = b env st' := by
  show ((c env >>= _) st) = _
  rw [bind_ok h] <;> rfl
/-- or, and: each in turn -/
theorem or_f {a : Tn} {b : Tn} {r : List Tn} {env : EnvP} {st st' : Store} (h : a env st = .ok false st') : cOrs (a :: b :: r) env st = cOrs (b :: r) env st' := by
  show ((a env >>= _) st) = _
  rw [bind_ok h] <;> rfl
theorem or_t {a : Tn} {b : Tn} {r : List Tn} {env : EnvP} {st st' : Store} (h : a env st = .ok true st') : cOrs (a :: b :: r) env st = .ok true st' := by
  show ((a env >>= _) st) = _
  rw [bind_ok h] <;> rfl
theorem or_1 {a : Tn} {env : EnvP} {st : Store} : cOrs [a] env st = a env st := rfl
theorem and_t {a : Tn} {b : Tn} {r : List Tn} {env : EnvP} {st st' : Store} (h : a env st = .ok true st') : cAnds (a :: b :: r) env st = cAnds (b :: r) env st' := by
  show ((a env >>= _) st) = _
  rw [bind_ok h] <;> rfl
theorem and_f {a : Tn} {b : Tn} {r : List Tn} {env : EnvP} {st st' : Store} (h : a env st = .ok false st') : cAnds (a :: b :: r) env st = .ok false st' := by
  show ((a env >>= _) st) = _
  rw [bind_ok h] <;> rfl
theorem and_1 {a : Tn} {env : EnvP} {st : Store} : cAnds [a] env st = a env st := rfl
theorem andV_t {a : Dn} {b : Dn} {r : List Dn} {env : EnvP} {st st' : Store} (h : a env st = .ok (.bl true) st') : cAndsV (a :: b :: r) env st = cAndsV (b :: r) env st' := by
  show ((a env >>= _) st) = _
  rw [bind_ok h] <;> rfl
theorem andV_f {a : Dn} {b : Dn} {r : List Dn} {env : EnvP} {st st' : Store} (h : a env st = .ok (.bl false) st') : cAndsV (a :: b :: r) env st = .ok (.bl false) st' := by
  show ((a env >>= _) st) = _
  rw [bind_ok h] <;> rfl
theorem andV_1 {a : Dn} {env : EnvP} {st : Store} : cAndsV [a] env st = a env st := rfl
theorem notV_ok {f : Dn} {env : EnvP} {st st1 : Store} {b : Bool} (h : f env st = .ok (.bl b) st1) : cNotV f env st = .ok (.bl (!b)) st1 := by
  show ((f env >>= _) st) = _
  rw [bind_ok h] <;> rfl
theorem isi_ok {f : Dn} {T t : String} {env : EnvP} {st st1 : Store} {d : PV} (h : f env st = .ok d st1) (ht : tyName st1 d = some t) : cIsi f T env st = .ok (.bl (isiB t T)) st1 := by
  show ((f env >>= _) st) = _
  rw [bind_ok h]
  show (match tyName st1 d with | some t => Res.ok (PV.bl (isiB t T)) st1 | none => .no) = _
  rw [ht]
/-! ### operators -/
@[simp] theorem add_ii {i j : Int} {st : Store} : opAdd (.int i) (.int j) st = .ok (.int (i + j)) st := rfl
theorem add_ss {a b : Str} {st : Store} (h : a.length + b.length ≤ sizeLine) : opAdd (.str a) (.str b) st = .ok (.str (a ++ b)) st := by
  show (if _ then _ else _ : M PV) st = _
  rw [if_pos h] <;> rfl
theorem add_tt {a b : List PV} {st : Store} (h : a.length + b.length ≤ sizeLine) : opAdd (.tup a) (.tup b) st = .ok (.tup (a ++ b)) st := by
  show (if _ then _ else _ : M PV) st = _
  rw [if_pos h] <;> rfl
theorem ii_ok {C : Int → Int → Prop} [∀ i j, Decidable (C i j)] {f : Int → Int → Int} {i j : Int} {st : Store} (h : C i j) : opII C f (.int i) (.int j) st = .ok (.int (f i j)) st := by
  show (if _ then _ else _ : M PV) st = _
  rw [if_pos h] <;> rfl
@[simp] theorem sub_ii {i j : Int} {st : Store} : opSub (.int i) (.int j) st = .ok (.int (i - j)) st := ii_ok trivial
theorem mod_ii {i j : Int} {st : Store} (h : 0 < j) : opMod (.int i) (.int j) st = .ok (.int (i % j)) st := ii_ok h
@[simp] theorem eq_ss {a b : Str} {st : Store} : opEqB false (.str a) (.str b) st = .ok (.bl (a == b)) st := by simp [opEqB, pdAt, pdOf, PyData.depth, PyData.eqv]
@[simp] theorem ne_ss {a b : Str} {st : Store} : opEqB true (.str a) (.str b) st = .ok (.bl (!(a == b))) st := by simp [opEqB, pdAt, pdOf, PyData.depth, PyData.eqv]
@[simp] theorem eq_ii {a b : Int} {st : Store} : opEqB false (.int a) (.int b) st = .ok (.bl (a == b)) st := by simp [opEqB, pdAt, pdOf, PyData.depth, PyData.eqv]
@[simp] theorem ne_ii {a b : Int} {st : Store} : opEqB true (.int a) (.int b) st = .ok (.bl (!(a == b))) st := by simp [opEqB, pdAt, pdOf, PyData.depth, PyData.eqv]
@[simp] theorem eq_bb {a b : Bool} {st : Store} : opEqB false (.bl a) (.bl b) st = .ok (.bl (a == b)) st := by simp [opEqB, pdAt, pdOf, PyData.depth, PyData.eqv]
theorem cmp_ii {f : PyData → PyData → Bool} {a b : Int} {st : Store} : opCmp f (.int a) (.int b) st = .ok (.bl (f (.int a) (.int b))) st := by
  simp [opCmp, pdAt, pdOf, cmpOk, PySem.W.alike, notNone, PyData.depth]
@[simp] theorem lt_ii {a b : Int} {st : Store} : opLt (.int a) (.int b) st = .ok (.bl (decide (a < b))) st := by unfold opLt; rw [cmp_ii, PySem.W.dataLt_int]
@[simp] theorem gt_ii {a b : Int} {st : Store} : opGt (.int a) (.int b) st = .ok (.bl (decide (b < a))) st := by unfold opGt; rw [cmp_ii, PySem.W.dataLt_int]
@[simp] theorem le_ii {a b : Int} {st : Store} : opLe (.int a) (.int b) st = .ok (.bl (decide (a ≤ b))) st := by
  unfold opLe; rw [cmp_ii, PySem.W.dataLt_int]
  congr 2
  by_cases h : a ≤ b
  · simp [h]
  · simp [h]; omega
@[simp] theorem ge_ii {a b : Int} {st : Store} : opGe (.int a) (.int b) st = .ok (.bl (decide (b ≤ a))) st := by
  unfold opGe; rw [cmp_ii, PySem.W.dataLt_int]
  congr 2
  by_cases h : b ≤ a
  · simp [h]
  · simp [h]; omega
@[simp] theorem isN_ok {d : PV} {st : Store} : opIsN false d .non st = .ok (.bl (decide (d = .non))) st := rfl
@[simp] theorem isnotN_ok {d : PV} {st : Store} : opIsN true d .non st = .ok (.bl (!decide (d = .non))) st := rfl
end PyI

/-! PyP2: the combinators as rewriting rules, for simp. -/
namespace PyI
open PySem
variable {env : EnvP} {st : Store}
@[simp] theorem run_next : sNext env st = .ok (.nx env) st := rfl
@[simp] theorem run_brk : sBrk env st = .ok (.brk env) st := rfl
@[simp] theorem run_cont : sCont env st = .ok (.cont env) st := rfl
@[simp] theorem run_seq {a b : Sm} : sSeq a b env st = (match a env st with
  | .ok (.nx env') st' => b env' st'
  | .ok fl st' => .ok fl st'
  | .ex e st' => .ex e st'
  | .no => .no) := by
  show ((a env >>= _) st) = _
  rw [bind_run]
  cases a env st with
  | ok fl st' => cases fl <;> rfl
  | ex => rfl
  | no => rfl
@[simp] theorem run_if {c : Tn} {a b : Sm} : sIf c a b env st = (match c env st with
  | .ok k st' => if k = true then a env st' else b env st'
  | .ex e st' => .ex e st'
  | .no => .no) := by
  show ((c env >>= _) st) = _
  rw [bind_run]
  cases c env st with
  | ok k st' => cases k <;> rfl
  | ex => rfl
  | no => rfl
@[simp] theorem run_ret {f : Dn} : sRet f env st = (match f env st with
  | .ok d st' => .ok (.ret d) st'
  | .ex e st' => .ex e st'
  | .no => .no) := by
  show ((f env >>= _) st) = _
  rw [bind_run]
  cases f env st <;> rfl
@[simp] theorem run_retN : sRetN env st = .ok (.ret .non) st := rfl
@[simp] theorem run_drop {f : Dn} : sDrop f env st = (match f env st with
  | .ok _ st' => .ok (.nx env) st'
  | .ex e st' => .ex e st'
  | .no => .no) := by
  show ((f env >>= _) st) = _
  rw [bind_run]
  cases f env st <;> rfl
@[simp] theorem run_asg {f : Dn} {i : Nat} : sAsg f (.name i) env st = (match f env st with
  | .ok d st' => .ok (.nx (env.set i (some d))) st'
  | .ex e st' => .ex e st'
  | .no => .no) := by
  show ((f env >>= _) st) = _
  rw [bind_run]
  cases f env st <;> rfl
theorem run_asgT {f : Dn} {ts : List Tg} : sAsg f (.tup ts) env st = (match f env st with
  | .ok d st' => (match setT (.tup ts) d env st' with
    | .ok env' st'' => .ok (.nx env') st''
    | .ex e st'' => .ex e st''
    | .no => .no)
  | .ex e st' => .ex e st'
  | .no => .no) := by
  show ((f env >>= _) st) = _
  rw [bind_run]
  cases f env st with
  | ok d st1 =>
    show ((setT (.tup ts) d env >>= _) st1) = _
    rw [bind_run]
    dsimp only
    cases setT (.tup ts) d env st1 <;> rfl
  | ex => rfl
  | no => rfl
@[simp] theorem run_c {d : PV} : cC d env st = .ok d st := rfl
@[simp] theorem run_var {i : Nat} : cVar i env st = (match env[i]? with
  | some (some d) => .ok d st
  | _ => .no) := rfl
@[simp] theorem run_bin {F : PV → PV → M PV} {fa fb : Dn} : cBin F fa fb env st = (match fa env st with
  | .ok a st1 => (match fb env st1 with
    | .ok b st2 => F a b st2
    | .ex e st2 => .ex e st2
    | .no => .no)
  | .ex e st1 => .ex e st1
  | .no => .no) := by
  show ((fa env >>= _) st) = _
  rw [bind_run]
  cases fa env st with
  | ok a st1 =>
    show ((fb env >>= _) st1) = _
    rw [bind_run]
    dsimp only
    cases fb env st1 <;> rfl
  | ex => rfl
  | no => rfl
@[simp] theorem run_un {F : PV → M PV} {fa : Dn} : cUn F fa env st = (match fa env st with
  | .ok a st1 => F a st1
  | .ex e st1 => .ex e st1
  | .no => .no) := by
  show ((fa env >>= _) st) = _
  rw [bind_run]
  cases fa env st <;> rfl
@[simp] theorem run_args0 : cArgs [] env st = .ok [] st := rfl
@[simp] theorem run_args {f : Dn} {fs : List Dn} : cArgs (f :: fs) env st = (match f env st with
  | .ok a st1 => (match cArgs fs env st1 with
    | .ok r st2 => .ok (a :: r) st2
    | .ex e st2 => .ex e st2
    | .no => .no)
  | .ex e st1 => .ex e st1
  | .no => .no) := by
  show ((f env >>= _) st) = _
  rw [bind_run]
  cases f env st with
  | ok a st1 =>
    show ((cArgs fs env >>= _) st1) = _
    rw [bind_run]
    dsimp only
    cases cArgs fs env st1 <;> rfl
  | ex => rfl
  | no => rfl
@[simp] theorem run_app {F : List PV → M PV} {fs : Ln} : cApp F fs env st = (match fs env st with
  | .ok a st1 => F a st1
  | .ex e st1 => .ex e st1
  | .no => .no) := by
  show ((fs env >>= _) st) = _
  rw [bind_run]
  cases fs env st <;> rfl
@[simp] theorem run_call {n : Nat} {F : List PV → M PV} {fs : Ln} : cCall n F [] fs env st = (match fs env st with
  | .ok xs st1 => if xs.length = n then (match F xs st1 with
    | .ok d st2 => .ok d st2
    | _ => .no) else .no
  | .ex e st1 => .ex e st1
  | .no => .no) := by
  show ((fs env >>= _) st) = _
  rw [bind_run]
  cases fs env st with
  | ok xs st1 =>
    simp only [List.append_nil]
    by_cases h : xs.length = n
    · rw [if_pos h, if_pos h]
      unfold noEx
      cases F xs st1 <;> rfl
    · rw [if_neg h, if_neg h] <;> rfl
  | ex => rfl
  | no => rfl
@[simp] theorem run_tup {fs : Ln} : cTup fs env st = (match fs env st with
  | .ok xs st1 => if xs.length ≤ sizeLine then .ok (.tup xs) st1 else .no
  | .ex e st1 => .ex e st1
  | .no => .no) := by
  show ((fs env >>= _) st) = _
  rw [bind_run]
  cases fs env st with
  | ok xs st1 => simp only; split <;> rfl
  | ex => rfl
  | no => rfl
@[simp] theorem run_lst {fs : Ln} : cLst fs env st = (match fs env st with
  | .ok xs st1 => if xs.length ≤ sizeLine then .ok xs st1 else .no
  | .ex e st1 => .ex e st1
  | .no => .no) := by
  show ((fs env >>= _) st) = _
  rw [bind_run]
  cases fs env st with
  | ok xs st1 => simp only; split <;> rfl
  | ex => rfl
  | no => rfl
@[simp] theorem run_keep {fl : Ln} : cKeep fl env st = (match fl env st with
  | .ok xs st1 => .ok (.obj st1.length) (st1 ++ [.lst xs])
  | .ex e st1 => .ex e st1
  | .no => .no) := by
  show ((fl env >>= _) st) = _
  rw [bind_run]
  cases fl env st <;> rfl
@[simp] theorem run_test {f : Dn} : cTest f env st = (match f env st with
  | .ok d st1 => asBool d st1
  | .ex e st1 => .ex e st1
  | .no => .no) := by
  show ((f env >>= _) st) = _
  rw [bind_run]
  cases f env st <;> rfl
@[simp] theorem run_asBool {b : Bool} : asBool (.bl b) st = .ok b st := rfl
@[simp] theorem run_truth {f : Dn} : cTruth f env st = (match f env st with
  | .ok d st1 => truth d st1
  | .ex e st1 => .ex e st1
  | .no => .no) := by
  show ((f env >>= _) st) = _
  rw [bind_run]
  cases f env st <;> rfl
@[simp] theorem truth_bl {b : Bool} : truth (.bl b) st = .ok b st := rfl
@[simp] theorem run_not {f : Tn} : cNotT f env st = (match f env st with
  | .ok b st1 => .ok (!b) st1
  | .ex e st1 => .ex e st1
  | .no => .no) := by
  show ((f env >>= _) st) = _
  rw [bind_run]
  cases f env st <;> rfl
@[simp] theorem run_ifE {α : Type} {c : Tn} {a b : EnvP → M α} : cIf c a b env st = (match c env st with
  | .ok k st' => if k = true then a env st' else b env st'
  | .ex e st' => .ex e st'
  | .no => .no) := by
  show ((c env >>= _) st) = _
  rw [bind_run]
  cases c env st with
  | ok k st' => cases k <;> rfl
  | ex => rfl
  | no => rfl
@[simp] theorem run_or1 {a : Tn} : cOrs [a] env st = a env st := rfl
@[simp] theorem run_or {a b : Tn} {r : List Tn} : cOrs (a :: b :: r) env st = (match a env st with
  | .ok k st' => if k = true then .ok true st' else cOrs (b :: r) env st'
  | .ex e st' => .ex e st'
  | .no => .no) := by
  show ((a env >>= _) st) = _
  rw [bind_run]
  cases a env st with
  | ok k st' => cases k <;> rfl
  | ex => rfl
  | no => rfl
@[simp] theorem run_and1 {a : Tn} : cAnds [a] env st = a env st := rfl
@[simp] theorem run_and {a b : Tn} {r : List Tn} : cAnds (a :: b :: r) env st = (match a env st with
  | .ok k st' => if k = true then cAnds (b :: r) env st' else .ok false st'
  | .ex e st' => .ex e st'
  | .no => .no) := by
  show ((a env >>= _) st) = _
  rw [bind_run]
  cases a env st with
  | ok k st' => cases k <;> rfl
  | ex => rfl
  | no => rfl
@[simp] theorem run_andV1 {a : Dn} : cAndsV [a] env st = a env st := rfl
@[simp] theorem run_andV {a b : Dn} {r : List Dn} : cAndsV (a :: b :: r) env st = (match a env st with
  | .ok d st' => (match truth d st' with
    | .ok k st2 => if k = true then cAndsV (b :: r) env st2 else .ok d st2
    | .ex e st2 => .ex e st2
    | .no => .no)
  | .ex e st' => .ex e st'
  | .no => .no) := by
  show ((a env >>= _) st) = _
  rw [bind_run]
  cases a env st with
  | ok d st' =>
    show ((truth d >>= _) st') = _
    rw [bind_run]
    dsimp only
    cases truth d st' with
    | ok k st2 => cases k <;> rfl
    | ex => rfl
    | no => rfl
  | ex => rfl
  | no => rfl
@[simp] theorem run_orV1 {a : Dn} : cOrsV [a] env st = a env st := rfl
@[simp] theorem run_orV {a b : Dn} {r : List Dn} : cOrsV (a :: b :: r) env st = (match a env st with
  | .ok d st' => (match truth d st' with
    | .ok k st2 => if k = true then .ok d st2 else cOrsV (b :: r) env st2
    | .ex e st2 => .ex e st2
    | .no => .no)
  | .ex e st' => .ex e st'
  | .no => .no) := by
  show ((a env >>= _) st) = _
  rw [bind_run]
  cases a env st with
  | ok d st' =>
    show ((truth d >>= _) st') = _
    rw [bind_run]
    dsimp only
    cases truth d st' with
    | ok k st2 => cases k <;> rfl
    | ex => rfl
    | no => rfl
  | ex => rfl
  | no => rfl
@[simp] theorem run_notV {f : Dn} : cNotV f env st = (match f env st with
  | .ok d st' => (match truth d st' with
    | .ok k st2 => .ok (.bl (!k)) st2
    | .ex e st2 => .ex e st2
    | .no => .no)
  | .ex e st' => .ex e st'
  | .no => .no) := by
  show ((f env >>= _) st) = _
  rw [bind_run]
  cases f env st with
  | ok d st' =>
    show ((truth d >>= _) st') = _
    rw [bind_run]
    dsimp only
    cases truth d st' <;> rfl
  | ex => rfl
  | no => rfl
@[simp] theorem run_isi {f : Dn} {T : String} : cIsi f T env st = (match f env st with
  | .ok d st1 => (match tyName st1 d with
    | some t => .ok (.bl (isiB t T)) st1
    | none => .no)
  | .ex e st1 => .ex e st1
  | .no => .no) := by
  show ((f env >>= _) st) = _
  rw [bind_run]
  cases f env st <;> rfl
@[simp] theorem run_chain {F G : PV → PV → M PV} {fa fb fc : Dn} : cChain F G fa fb fc env st = (match fa env st with
  | .ok a st1 => (match fb env st1 with
    | .ok b st2 => (match F a b st2 with
      | .ok r st3 => (match asBool r st3 with
        | .ok k st4 => if k = true then (match fc env st4 with
          | .ok c st5 => (match G b c st5 with
            | .ok z st6 => (match asBool z st6 with
              | .ok j st7 => .ok (.bl j) st7
              | .ex e st7 => .ex e st7
              | .no => .no)
            | .ex e st6 => .ex e st6
            | .no => .no)
          | .ex e st5 => .ex e st5
          | .no => .no) else .ok (.bl false) st4
        | .ex e st4 => .ex e st4
        | .no => .no)
      | .ex e st3 => .ex e st3
      | .no => .no)
    | .ex e st2 => .ex e st2
    | .no => .no)
  | .ex e st1 => .ex e st1
  | .no => .no) := by
  show ((fa env >>= _) st) = _
  rw [bind_run]
  cases fa env st with
  | ok a st1 =>
    show ((fb env >>= _) st1) = _
    rw [bind_run]
    dsimp only
    cases fb env st1 with
    | ok b st2 =>
      show ((F a b >>= _) st2) = _
      rw [bind_run]
      dsimp only
      cases F a b st2 with
      | ok r st3 =>
        show ((asBool r >>= _) st3) = _
        rw [bind_run]
        dsimp only
        cases asBool r st3 with
        | ok k st4 =>
          cases k with
          | false => rfl
          | true =>
            show ((fc env >>= _) st4) = _
            rw [bind_run]
            dsimp only
            cases fc env st4 with
            | ok c st5 =>
              show ((G b c >>= _) st5) = _
              rw [bind_run]
              dsimp only
              cases G b c st5 with
              | ok z st6 =>
                show ((asBool z >>= _) st6) = _
                rw [bind_run]
                dsimp only
                cases asBool z st6 <;> rfl
              | ex => rfl
              | no => rfl
            | ex => rfl
            | no => rfl
        | ex => rfl
        | no => rfl
      | ex => rfl
      | no => rfl
    | ex => rfl
    | no => rfl
  | ex => rfl
  | no => rfl
@[simp] theorem run_mod {i j : Int} : opMod (.int i) (.int j) st = if 0 < j then .ok (.int (i % j)) st else .no := by
  by_cases h : 0 < j
  · rw [if_pos h, mod_ii h]
  · rw [if_neg h]
    show (if _ then _ else _ : M PV) st = _
    rw [if_neg h] <;> rfl
@[simp] theorem run_fdiv {i j : Int} : opFdiv (.int i) (.int j) st = if L2.CDiv i j then .ok (.int (i / j)) st else .no := by
  by_cases h : L2.CDiv i j
  · rw [if_pos h]; exact ii_ok h
  · rw [if_neg h]
    show (if _ then _ else _ : M PV) st = _
    rw [if_neg h] <;> rfl
@[simp] theorem run_mul {i j : Int} : opMul (.int i) (.int j) st = if L2.CMul i j then .ok (.int (i * j)) st else .no := by
  by_cases h : L2.CMul i j
  · rw [if_pos h]; exact ii_ok h
  · rw [if_neg h]
    show (if _ then _ else _ : M PV) st = _
    rw [if_neg h] <;> rfl
@[simp] theorem run_neg {i : Int} : opNeg (.int i) st = .ok (.int (-i)) st := rfl
@[simp] theorem run_len_str {s : Str} : bLen [.str s] st = if s.length ≤ sizeLine then .ok (.int s.length) st else .no := rfl
@[simp] theorem run_len_tup {xs : List PV} : bLen [.tup xs] st = .ok (.int xs.length) st := rfl
@[simp] theorem run_len_ctup {xs : List PV} : bLen [.ctup xs] st = .ok (.int xs.length) st := rfl
@[simp] theorem run_len_ilst {xs : List PV} : bLen [.ilst xs] st = .ok (.int xs.length) st := rfl
@[simp] theorem run_int_int {i : Int} : bInt [.int i] st = .ok (.int i) st := rfl
@[simp] theorem run_int2_int {i : Int} : bInt2 [.int i] st = .ok (.int i) st := rfl
@[simp] theorem run_str_str {s : Str} : bStr [.str s] st = .ok (.str s) st := rfl
theorem run_str_int {i : Int} (h : fits1920 i = true) : bStr [.int i] st = .ok (.str (Str.ofString (toString i))) st := by
  show (if _ then _ else _) = _
  rw [if_pos h] <;> rfl
theorem run_int_str {s : Str} {n : Int} (h : intText? s = some n) (hl : s.length ≤ 640) : bInt [.str s] st = .ok (.int n) st := by
  show (match intText? s with | some n => if s.length ≤ 640 then Res.ok (PV.int n) st else .no | none => .no) = _
  rw [h]
  simp only [if_pos hl]
def signsB (all : Bool) (pb : Nat → Bool) (s : Str) : Bool := if all then s.cps.toList.all pb else s.cps.toList.any pb
@[simp] theorem run_signs {all : Bool} {pb : Nat → Bool} {f : Dn} : cSigns all pb f env st = (match f env st with
  | .ok (.str s) st1 => .ok (.bl (signsB all pb s)) st1
  | .ok _ _ => .no
  | .ex e st1 => .ex e st1
  | .no => .no) := by
  show ((f env >>= _) st) = _
  rw [bind_run]
  cases f env st with
  | ok d st1 => cases d <;> rfl
  | ex => rfl
  | no => rfl
end PyI

/-! PyP3: texts; comprehensions; subscripts. -/
namespace PyI
open PySem
/-! ### texts -/
abbrev cl (s : Str) : List Nat := s.cps.toList
theorem str_eq {a b : Str} (h : cl a = cl b) : a = b := PySem.W.str_of_cps h
@[simp] theorem cl_append (a b : Str) : cl (a ++ b) = cl a ++ cl b := by
  show (a.cps ++ b.cps).toList = _
  simp
theorem cl_len (a : Str) : a.length = (cl a).length := by simp [Str.length]
theorem len_append (a b : Str) : (a ++ b).length = a.length + b.length := by rw [cl_len, cl_append, List.length_append, cl_len, cl_len]
theorem list_apart {c : Nat} : ∀ {u v r s : List Nat}, c ∉ u → c ∉ v → u ++ c :: r = v ++ c :: s → u = v ∧ r = s
  | [], [], _, _, _, _, e => ⟨rfl, (List.cons.inj e).2⟩
  | [], y :: v, _, _, _, hv, e => absurd (by rw [(List.cons.inj e).1]; exact List.mem_cons_self) hv
  | x :: u, [], _, _, hu, _, e => absurd (by rw [← (List.cons.inj e).1]; exact List.mem_cons_self) hu
  | x :: u, y :: v, r, s, hu, hv, e => by
    obtain ⟨e1, e2⟩ := List.cons.inj (show x :: (u ++ c :: r) = y :: (v ++ c :: s) from e)
    obtain ⟨h1, h2⟩ := list_apart (fun z => hu (List.mem_cons_of_mem _ z)) (fun z => hv (List.mem_cons_of_mem _ z)) e2
    exact ⟨by rw [e1, h1], h2⟩
theorem join_cons (sep x y : Str) (r : List Str) : cl (Str.join sep (x :: y :: r)) = cl x ++ cl sep ++ cl (Str.join sep (y :: r)) := by
  show cl (x ++ sep ++ Str.join sep (y :: r)) = _
  simp
theorem join_inj {c : Nat} : ∀ {A B : List Str}, A ≠ [] → B ≠ [] → (∀ p ∈ A, c ∉ cl p) → (∀ p ∈ B, c ∉ cl p) → Str.join ⟨#[c]⟩ A = Str.join ⟨#[c]⟩ B → A = B
  | [], _, h, _, _, _, _ => absurd rfl h
  | _ :: _, [], _, h, _, _, _ => absurd rfl h
  | [x], [y], _, _, _, _, e => by rw [show x = y from e]
  | [x], y :: z :: s, _, _, hA, _, e => by
    have e1 := congrArg cl e
    rw [join_cons] at e1
    have e2 : cl x = cl y ++ [c] ++ cl (Str.join ⟨#[c]⟩ (z :: s)) := e1
    exact absurd (by rw [e2]; simp) (hA x List.mem_cons_self)
  | x :: w :: r, [y], _, _, _, hB, e => by
    have e1 := congrArg cl e
    rw [join_cons] at e1
    have e2 : cl x ++ [c] ++ cl (Str.join ⟨#[c]⟩ (w :: r)) = cl y := e1
    exact absurd (by rw [← e2]; simp) (hB y List.mem_cons_self)
  | x :: w :: r, y :: z :: s, _, _, hA, hB, e => by
    have e1 := congrArg cl e
    rw [join_cons, join_cons] at e1
    have e2 : cl x ++ c :: cl (Str.join ⟨#[c]⟩ (w :: r)) = cl y ++ c :: cl (Str.join ⟨#[c]⟩ (z :: s)) := by simpa [cl] using e1
    obtain ⟨h1, h2⟩ := list_apart (hA x List.mem_cons_self) (hB y List.mem_cons_self) e2
    rw [str_eq h1, join_inj (by simp) (by simp) (fun p hp => hA p (List.mem_cons_of_mem _ hp)) (fun p hp => hB p (List.mem_cons_of_mem _ hp)) (str_eq h2)]
theorem split_join {c : Nat} {ps : List Str} (hne : ps ≠ []) (h : ∀ p ∈ ps, c ∉ cl p) : Txt.split (Str.join ⟨#[c]⟩ ps) ⟨#[c]⟩ = ps := by
  refine join_inj (c := c) ?_ hne (StrLaws.split_free _ c) h (StrLaws.join_split _ _)
  have := PyProof.Rows.split_pos (Str.join ⟨#[c]⟩ ps) ⟨#[c]⟩
  intro z
  rw [z] at this
  simp at this
theorem txt_join (sep : Str) (ps : List Str) : Txt.join sep ps = Str.join sep ps := StrLaws.glued_eq_join sep ps
/-- rows, each with its end -/
theorem cl_rows (e : Str) : ∀ rows : List Str, cl (Str.join ("" : Str) (rows.map (· ++ e))) = rows.flatMap fun r => cl r ++ cl e
  | [] => rfl
  | [r] => by
    show cl (r ++ e) = _
    simp
  | r :: q :: rs => by
    rw [List.map_cons, List.map_cons, join_cons, ← List.map_cons (f := fun x : Str => x ++ e), cl_rows e (q :: rs)]
    show cl (r ++ e) ++ [] ++ _ = _
    simp
theorem rows_join {c : Nat} : ∀ rows : List Str, Str.join ("" : Str) (rows.map (· ++ (⟨#[c]⟩ : Str))) = Str.join ⟨#[c]⟩ (rows ++ [("" : Str)])
  | [] => rfl
  | r :: rs => by
    apply str_eq
    have ih := congrArg cl (rows_join (c := c) rs)
    rw [cl_rows] at ih ⊢
    rw [List.flatMap_cons, ih]
    cases rs with
    | nil =>
      show cl r ++ [c] ++ [] = cl (r ++ ⟨#[c]⟩ ++ ("" : Str))
      simp [cl]
      rfl
    | cons q qs =>
      show _ = cl (Str.join ⟨#[c]⟩ (r :: q :: (qs ++ [("" : Str)])))
      rw [join_cons]
      rfl
theorem split_rows {c : Nat} {rows : List Str} (h : ∀ p ∈ rows, c ∉ cl p) : Txt.split (Str.join ("" : Str) (rows.map (· ++ (⟨#[c]⟩ : Str)))) ⟨#[c]⟩ = rows ++ [("" : Str)] := by
  rw [rows_join]
  refine split_join (by simp) fun p hp => ?_
  rcases List.mem_append.mp hp with hp | hp
  · exact h p hp
  · rw [List.mem_singleton.mp hp]
    exact fun z => by
      have e : (Str.ofString "").cps.toList = [] := by decide +kernel
      rw [show cl (Str.ofString "") = [] from e] at z
      cases z
/-! ### comprehensions -/
theorem comp_loop {t : Tg} {tt : Tn} {te : Dn} {env : EnvP} {gd : Guard} {st : Store} (hg : gdOk gd st = true) {f : PV → PV} : ∀ (xs acc : List PV), acc.length + xs.length ≤ sizeLine → (∀ x ∈ xs, ∃ env', setT t x env st = .ok env' st ∧ tt env' st = .ok true st ∧ te env' st = .ok (f x) st) →
    compLoop t tt te env gd xs acc st = .ok (acc ++ xs.map f) st
  | [], acc, _, _ => by simp [compLoop]
  | x :: xs, acc, hl, h => by
    obtain ⟨env', h1, h2, h3⟩ := h x List.mem_cons_self
    have hl' : acc.length < sizeLine := by simp at hl; omega
    unfold compLoop
    rw [bind_ok h1, bind_ok h2, if_pos rfl, bind_ok h3, if_pos hl', bind_ok (show chk gd st = .ok () st by unfold chk; rw [if_pos hg])]
    rw [comp_loop hg xs (acc ++ [f x]) (by simp at hl ⊢; omega) fun y hy => h y (List.mem_cons_of_mem _ hy)]
    simp
theorem comp_ok' {wi : Wn} {t : Tg} {tt : Tn} {te : Dn} {own : List Nat} {env : EnvP} {st st1 : Store} {xs : List PV} {gd : Guard} {f : PV → PV} (hw : wi env st = .ok (xs, gd) st1) (hg : gdOk gd st1 = true) (hl : xs.length ≤ sizeLine)
    (h : ∀ x ∈ xs, ∃ env', setT t x (wipeP env own) st1 = .ok env' st1 ∧ tt env' st1 = .ok true st1 ∧ te env' st1 = .ok (f x) st1) : cCompN wi t tt te own env st = .ok (xs.map f) st1 := by
  unfold cCompN
  rw [bind_ok hw]
  exact noEx_ok (by rw [comp_loop hg xs [] (by simpa using hl) h, List.nil_append])
/-- .. over ints 0, 1, .. -/
theorem range_ok {f : Dn} {env : EnvP} {st st1 : Store} {j : Int} (h : f env st = .ok (.int j) st1) (hj : -(2 ^ 62) ≤ j ∧ j < 2 ^ 62) : wRange1 f env st = .ok ((List.range j.toNat).map fun i => PV.int (i : Nat), []) st1 := by
  unfold wRange1
  rw [bind_ok h]
  show (if _ then _ else _ : M (List PV × Guard)) st1 = _
  rw [if_pos hj] <;> rfl
theorem wVal_ok {f : Dn} {env : EnvP} {st st1 : Store} {d : PV} {p : List PV × Guard} (h : f env st = .ok d st1) (hp : itemsP d st1 = .ok p st1) : wVal f env st = .ok p st1 := by
  unfold wVal
  rw [bind_ok h, hp]
theorem joinP_ok {s : Str} {ss : List Str} {st : Store} (hl : (ss.map (·.length)).sum + ss.length * s.length ≤ 16777216) : joinP s (ss.map PV.str) st = .ok (.str (Str.join s ss)) st := by
  unfold joinP
  rw [strsOf_map]
  simp only [if_pos hl, txt_join]
theorem metL_ok {F : PV → List PV → M PV} {fo : Dn} {fl : Ln} {env : EnvP} {st st1 st2 : Store} {s : Str} {xs : List PV} (ho : fo env st = .ok (.str s) st1) (hl : fl env st1 = .ok xs st2) : cMetL F fo fl env st = F (.str s) xs st2 := by
  unfold cMetL
  rw [bind_ok ho]
  show ((fl env >>= _) st1) = _
  rw [bind_ok hl]
theorem cat_ok {fa fb : Ln} {env : EnvP} {st st1 st2 : Store} {xs ys : List PV} (ha : fa env st = .ok xs st1) (hb : fb env st1 = .ok ys st2) (hz : xs.length + ys.length ≤ sizeLine) : cCat fa fb env st = .ok (xs ++ ys) st2 := by
  unfold cCat
  rw [bind_ok ha, bind_ok hb, if_pos hz] <;> rfl
theorem split_ok {fo fa : Dn} {env : EnvP} {st st1 st2 : Store} {s b : Str} (ho : fo env st = .ok (.str s) st1) (ha : fa env st1 = .ok (.str b) st2) (h1 : (b.length == 0) = false) (h2 : s.length + 2 ≤ sizeLine) : cSplit fo fa env st = .ok ((Txt.split s b).map PV.str) st2 := by
  unfold cSplit
  rw [bind_ok ho]
  show ((fa env >>= _) st1) = _
  rw [bind_ok ha]
  show (if _ then _ else _ : M (List PV)) st2 = _
  rw [if_pos ⟨h1, h2⟩] <;> rfl
theorem slice_ok {fa : Dn} {lo hi : Option Dn} {env : EnvP} {st st1 st2 st3 : Store} {a : PV} {l u : Option Int} (ha : fa env st = .ok a st1) (hl : cPart lo env st1 = .ok l st2) (hu : cPart hi env st2 = .ok u st3) : cSlice fa lo hi env st = sliceP a l u st3 := by
  unfold cSlice
  rw [bind_ok ha, bind_ok hl, bind_ok hu]
@[simp] theorem part_none {env : EnvP} {st : Store} : cPart none env st = .ok none st := rfl
theorem part_some {f : Dn} {env : EnvP} {st st1 : Store} {i : Int} (h : f env st = .ok (.int i) st1) : cPart (some f) env st = .ok (some i) st1 := by
  show ((f env >>= _) st) = _
  rw [bind_ok h] <;> rfl
/-- xs[1:] -/
theorem cut_tail {α : Type} (x : α) (xs : List α) : cutG (x :: xs) (some 1) none = xs := by
  unfold cutG
  have h1 : HT.sIx (x :: xs).length 0 (some 1) = 1 := by simp [HT.sIx]
  have h2 : HT.sIx (x :: xs).length (x :: xs).length none = (x :: xs).length := by simp [HT.sIx]
  rw [h1, h2]
  simp
/-- xs[:-1] -/
theorem cut_init {α : Type} (xs : List α) (x : α) : cutG (xs ++ [x]) none (some (-1)) = xs := by
  unfold cutG
  have h1 : HT.sIx (xs ++ [x]).length 0 none = 0 := by simp [HT.sIx]
  have h2 : HT.sIx (xs ++ [x]).length (xs ++ [x]).length (some (-1)) = xs.length := by simp [HT.sIx]; omega
  rw [h1, h2]
  simp
end PyI

/-! PyP4: lists of the store; comprehensions, pairwise. -/
namespace PyI
open PySem
inductive All2 {α β : Type} (P : α → β → Prop) : List α → List β → Prop
  | nil : All2 P [] []
  | cons {a : α} {b : β} {r : List α} {s : List β} : P a b → All2 P r s → All2 P (a :: r) (b :: s)
theorem All2.length {α β : Type} {P : α → β → Prop} : ∀ {r : List α} {s : List β}, All2 P r s → r.length = s.length
  | _, _, .nil => rfl
  | _, _, .cons _ h => by rw [List.length_cons, List.length_cons, h.length]
theorem All2.mono {α β : Type} {P Q : α → β → Prop} (h : ∀ a b, P a b → Q a b) : ∀ {r : List α} {s : List β}, All2 P r s → All2 Q r s
  | _, _, .nil => .nil
  | _, _, .cons a r => .cons (h _ _ a) (r.mono h)
theorem All2.map {α β γ : Type} {P : α → β → Prop} {f : γ → α} {g : γ → β} : ∀ {l : List γ}, (∀ x ∈ l, P (f x) (g x)) → All2 P (l.map f) (l.map g)
  | [], _ => .nil
  | x :: r, h => .cons (h x List.mem_cons_self) (All2.map fun y hy => h y (List.mem_cons_of_mem _ hy))
theorem comp_loop2 {t : Tg} {tt : Tn} {te : Dn} {env : EnvP} {gd : Guard} {st : Store} (hg : gdOk gd st = true) : ∀ {xs ys : List PV} (acc : List PV), acc.length + xs.length ≤ sizeLine → All2 (fun x y => ∃ env', setT t x env st = .ok env' st ∧ tt env' st = .ok true st ∧ te env' st = .ok y st) xs ys →
    compLoop t tt te env gd xs acc st = .ok (acc ++ ys) st
  | _, _, acc, _, .nil => by simp [compLoop]
  | x :: xs, y :: ys, acc, hl, .cons ⟨env', h1, h2, h3⟩ h => by
    have hl' : acc.length < sizeLine := by simp at hl; omega
    unfold compLoop
    rw [bind_ok h1, bind_ok h2, if_pos rfl, bind_ok h3, if_pos hl', bind_ok (show chk gd st = .ok () st by unfold chk; rw [if_pos hg])]
    rw [comp_loop2 hg (acc ++ [y]) (by simp at hl ⊢; omega) h]
    simp
theorem comp_ok2 {wi : Wn} {t : Tg} {tt : Tn} {te : Dn} {own : List Nat} {env : EnvP} {st st1 : Store} {xs ys : List PV} {gd : Guard} (hw : wi env st = .ok (xs, gd) st1) (hg : gdOk gd st1 = true) (hl : xs.length ≤ sizeLine)
    (h : All2 (fun x y => ∃ env', setT t x (wipeP env own) st1 = .ok env' st1 ∧ tt env' st1 = .ok true st1 ∧ te env' st1 = .ok y st1) xs ys) : cCompN wi t tt te own env st = .ok ys st1 := by
  unfold cCompN
  rw [bind_ok hw]
  exact noEx_ok (by rw [comp_loop2 hg [] (by simpa using hl) h, List.nil_append])
theorem get_obj {n : Nat} {st : Store} {xs : List PV} {i : Int} {d : PV} (h : st[n]? = some (.lst xs)) (hd : L2.atI xs i = some d) : getItemP (.obj n) (.int i) st = .ok d st := by
  simp [getItemP, h, hd]
theorem get_tup {st : Store} {xs : List PV} {i : Int} {d : PV} (hd : L2.atI xs i = some d) : getItemP (.tup xs) (.int i) st = .ok d st := by
  simp [getItemP, hd]
theorem at_nat {α : Type} {xs : List α} {i : Nat} {d : α} (h : xs[i]? = some d) : L2.atI xs (i : Int) = some d := by
  have hi := (List.getElem?_eq_some_iff.mp h).1
  unfold L2.atI L2.ixN
  rw [if_pos (by omega), if_pos (by omega)]
  simpa using h
theorem at_zero {α : Type} {x : α} {xs : List α} : L2.atI (x :: xs) 0 = some x := at_nat (i := 0) rfl
theorem at_last {α : Type} {x : α} {xs : List α} : L2.atI (xs ++ [x]) (-1) = some x := by
  unfold L2.atI L2.ixN
  rw [if_neg (by omega), if_pos (by simp; omega)]
  have e : (-1 + (((xs ++ [x]).length : Nat) : Int)).toNat = xs.length := by simp; omega
  show (xs ++ [x])[(-1 + (((xs ++ [x]).length : Nat) : Int)).toNat]? = some x
  rw [e]
  simp
theorem len_obj {n : Nat} {st : Store} {xs : List PV} (h : st[n]? = some (.lst xs)) : bLen [.obj n] st = .ok (.int xs.length) st := by
  simp [bLen, h]
theorem tuple_obj {n : Nat} {st : Store} {xs : List PV} (h : st[n]? = some (.lst xs)) : bTuple [.obj n] st = .ok (.tup xs) st := by
  simp [bTuple, h]
theorem items_obj {n : Nat} {st : Store} {xs : List PV} (h : st[n]? = some (.lst xs)) : itemsP (.obj n) st = .ok (xs, [(n, xs)]) st := by
  simp [itemsP, h]
theorem slice_obj {n : Nat} {st : Store} {xs : List PV} {lo hi : Option Int} (h : st[n]? = some (.lst xs)) : sliceP (.obj n) lo hi st = .ok (.obj st.length) (st ++ [.lst (cutG xs lo hi)]) := by
  simp [sliceP, h, newLst]
theorem seq_obj {n : Nat} {st : Store} {xs : List PV} (h : st[n]? = some (.lst xs)) : seqP (.obj n) st = .ok (xs, [(n, xs)]) st := by
  simp [seqP, h]
theorem gd_one' {n : Nat} {st : Store} {xs : List PV} (h : st[n]? = some (.lst xs)) : gdOk [(n, xs)] st = true := gd_one h
theorem zip_ok' {fa fb : Dn} {env : EnvP} {st st1 st2 : Store} {a b : PV} {p q : List PV × Guard} (ha : fa env st = .ok a st1) (hb : fb env st1 = .ok b st2) (hp : seqP a st2 = .ok p st2) (hq : seqP b st2 = .ok q st2) : wZip fa fb env st = .ok (zipP p.1 q.1, p.2 ++ q.2) st2 := by
  unfold wZip
  rw [bind_ok ha, bind_ok hb, bind_ok hp, bind_ok hq] <;> rfl
theorem kdIn_ok {neg : Bool} {kvs : List (Str × PV)} {f : Dn} {env : EnvP} {st st1 : Store} {s : Str} (h : f env st = .ok (.str s) st1) : cKdIn neg kvs f env st = .ok (.bl (neg != (kvs.lookup s).isSome)) st1 := by
  unfold cKdIn
  rw [bind_ok h] <;> rfl
theorem kdGet_ok {kvs : List (Str × PV)} {f : Dn} {env : EnvP} {st st1 : Store} {s : Str} {d : PV} (h : f env st = .ok (.str s) st1) (hd : kvs.lookup s = some d) : cKdGet kvs f env st = .ok d st1 := by
  unfold cKdGet
  rw [bind_ok h]
  show (match kvs.lookup s with | some e => pure e | none => M.fail : M PV) st1 = _
  rw [hd] <;> rfl
theorem pds_ints : ∀ l : List Int, pdsOf (l.map PV.int) = some (l.map PyData.int)
  | [] => rfl
  | x :: r => by
    rw [List.map_cons]
    unfold pdsOf
    rw [pds_ints r] <;> rfl
theorem depth_ints : ∀ l : List Int, PyData.depthAll (l.map PyData.int) = 0
  | [] => rfl
  | x :: r => by
    rw [List.map_cons]
    unfold PyData.depthAll
    rw [depth_ints r] <;> rfl
theorem none_in_ints {n : Nat} {st : Store} {l : List Int} (h : st[n]? = some (.lst (l.map PV.int))) : opInB false .non (.obj n) st = .ok (.bl false) st := by
  unfold opInB
  simp only [pdAt, pdOf, h, pds_ints, Option.map_some]
  rw [if_pos (by rw [depth_ints]; simp)]
  simp [PyData.eqv, List.any_map, Function.comp_def]
theorem in_two {a b s : Str} {st : Store} : opInB false (.str s) (.tup [.str a, .str b]) st = .ok (.bl (a == s || b == s)) st := by
  unfold opInB
  simp [pdAt, pdOf, pdsOf, PyData.depth, PyData.eqv]
end PyI

/-! PyL1: what all laws begin with: drawn numbers, likeness. -/
namespace PyI
open PySem L2
abbrev Cl := Str → List PV → M PV
def isIntB : Sm := sSeq (sRet (cAndsV [cIsi (cVar 0) "int", cNotV (cIsi (cVar 0) "bool")])) (sNext)
def likeB (cl : Cl) : Sm :=
 sSeq (sIf (cTest (cBin (opIsN false) (cVar 1) (cC (.non)))) (sSeq (sRet (cBin (opIsN false) (cVar 0) (cC (.non)))) (sNext)) (sNext)) (
 sSeq (sIf (cTruth (cIsi (cVar 1) "bool")) (sSeq (sRet (cAndsV [cIsi (cVar 0) "bool", cBin (opEqB false) (cVar 0) (cVar 1)])) (sNext)) (sNext)) (
 sSeq (sIf (cTruth (cIsi (cVar 1) "tuple")) (sSeq (sIf (cOrs [cNotT (cTruth (cIsi (cVar 0) "tuple")), cTest (cBin (opEqB true) (cApp bLen (cArgs [cVar 0])) (cApp bLen (cArgs [cVar 1])))]) (sSeq (sRet (cC (.bl false))) (sNext)) (sNext)) (
   sSeq (sRet (cApp lAll (cCompN (wRange1 (cApp bLen (cArgs [cVar 1]))) (.name 2) (cTrue) (cCall 2 (cl ("_law_like" : Str)) [] (cArgs [cBin getItemP (cVar 0) (cVar 2), cBin getItemP (cVar 1) (cVar 2)])) [2]))) (sNext))) (sNext)) (
 sSeq (sIf (cTruth (cIsi (cVar 1) "str")) (sSeq (sRet (cAndsV [cIsi (cVar 0) "str", cBin (opEqB false) (cVar 0) (cVar 1)])) (sNext)) (sNext)) (
 sSeq (sRet (cAndsV [cCall 1 (cl ("_law_is_int" : Str)) [] (cArgs [cVar 0]), cBin (opEqB false) (cVar 0) (cVar 1)])) (sNext)))))
def mixedB : Sm :=
 sSeq (sAsg (cC (.int (0))) (.name 2)) (
 sSeq (sIf (cTest (cBin opGt (cApp bLen (cArgs [cVar 0])) (cC (.int (0))))) (sSeq (sAsg (cBin getItemP (cVar 0) (cBin opMod (cVar 1) (cApp bLen (cArgs [cVar 0])))) (.name 2)) (sNext)) (sNext)) (
 sSeq (sAsg (cBin opMod (cApp bInt2 (cArgs [cBin opAdd (cBin opAdd (cBin opMul (cVar 2) (cC (.int (48271)))) (cBin opMul (cVar 1) (cC (.int (69621))))) (cC (.int (8191)))])) (cC (.int (2147483647)))) (.name 3)) (
 sSeq (sAsg (cBin opMod (cApp bInt2 (cArgs [cBin opAdd (cBin opAdd (cBin opMul (cVar 3) (cVar 3)) (cBin opFdiv (cVar 3) (cC (.int (7))))) (cBin opMul (cVar 1) (cC (.int (16807))))])) (cC (.int (2147483629)))) (.name 4)) (
 sSeq (sAsg (cBin opMod (cApp bInt2 (cArgs [cBin opAdd (cBin opAdd (cBin opMul (cVar 4) (cVar 4)) (cBin opFdiv (cVar 4) (cC (.int (11))))) (cC (.int (40692)))])) (cC (.int (2147483563)))) (.name 5)) (
 sSeq (sRet (cBin opMod (cBin opFdiv (cVar 5) (cC (.int (5)))) (cC (.int (1000003))))) (sNext))))))
def rowBody (cl : Cl) : Sm := sSeq (sIf (cTest (cBin opGt (cVar 2) (cC (.int (0))))) (sSeq (sDrop (cMet "list" mAppend (cVar 3) (cArgs [cBin opMod (cApp bInt2 (cArgs [cVar 2])) (cC (.int (1000)))]))) (
     sSeq (sAsg (cBin opFdiv (cVar 2) (cC (.int (1000)))) (.name 2)) (sNext))) (sSeq (sDrop (cMet "list" mAppend (cVar 3) (cArgs [cCall 2 (cl ("_law_mixed" : Str)) [] (cArgs [cVar 0, cVar 4])]))) (sNext))) (sNext)
def rowB (cl : Cl) : Sm :=
 sSeq (sAsg (cC (.int (0))) (.name 2)) (
 sSeq (sIf (cAnds [cTest (cBin opGt (cApp bLen (cArgs [cVar 0])) (cC (.int (0)))), cTest (cBin opGe (cBin getItemP (cVar 0) (cC (.int (0)))) (cBin opPow (cC (.int (10))) (cC (.int (18)))))]) (sSeq (sAsg (cBin getItemP (cVar 0) (cC (.int (0)))) (.name 2)) (sNext)) (sNext)) (
 sSeq (sAsg (cKeep (cLst (cArgs []))) (.name 3)) (
 sSeq (sFor (wRange1 (cVar 1)) (.name 4) (rowBody cl)) (
 sSeq (sRet (cVar 3)) (sNext)))))
/-! ### likeness -/
def atomB : PV → Bool
  | .non => true
  | .bl _ => true
  | .int _ => true
  | .str _ => true
  | _ => false
def Lk : Nat → PV → PV → Prop
  | 0, v, w => atomB v = true ∧ v = w
  | d + 1, v, w => (atomB v = true ∧ v = w) ∨ ∃ xs ys, (v = .tup xs ∨ v = .ctup xs) ∧ (w = .tup ys ∨ w = .ctup ys) ∧ xs.length ≤ 1000000 ∧ All2 (Lk d) xs ys
theorem all2_get {α β : Type} {P : α → β → Prop} : ∀ {xs : List α} {ys : List β}, All2 P xs ys → ∀ i, i < xs.length → ∃ x y, xs[i]? = some x ∧ ys[i]? = some y ∧ P x y
  | _, _, .nil, i, h => absurd h (Nat.not_lt_zero _)
  | _, _, .cons a r, 0, _ => ⟨_, _, rfl, rfl, a⟩
  | _, _, .cons a r, i + 1, h => by
    obtain ⟨x, y, h1, h2, h3⟩ := all2_get r i (Nat.lt_of_succ_lt_succ h)
    exact ⟨x, y, by rw [List.getElem?_cons_succ]; exact h1, by rw [List.getElem?_cons_succ]; exact h2, h3⟩
theorem all2_const {α β : Type} {P : α → β → Prop} {y : β} : ∀ {l : List α}, (∀ x ∈ l, P x y) → All2 P l (List.replicate l.length y)
  | [], _ => .nil
  | x :: r, h => .cons (h x List.mem_cons_self) (all2_const fun z hz => h z (List.mem_cons_of_mem _ hz))
theorem bools_rep (n : Nat) : boolsOf (List.replicate n (PV.bl true)) = some (List.replicate n true) := by
  induction n with
  | zero => rfl
  | succ n ih => rw [List.replicate_succ, List.replicate_succ]; unfold boolsOf; rw [ih]; rfl
theorem lAll_rep {n : Nat} {st : Store} : lAll (List.replicate n (PV.bl true)) st = .ok (.bl true) st := by
  unfold lAll
  rw [bools_rep]
  simp
theorem like_atom {D : Nat → Cl} (hL : ∀ n xs, D (n + 1) ("_law_like" : Str) xs = callP (likeB (D n) (startP 3 xs))) (hI : ∀ n xs, D (n + 1) ("_law_is_int" : Str) xs = callP (isIntB (startP 1 xs))) {v : PV} (h : atomB v = true) (n : Nat) (st : Store) : D (n + 2) ("_law_like" : Str) [v, v] st = .ok (.bl true) st := by
  rw [hL]
  refine (call_ret (st' := st) (d := .bl true) ?_).trans (by rw [gc_same])
  have k1 : isiB "bool" "bool" = true := by decide
  have k2 : isiB "int" "bool" = false := by decide
  have k3 : isiB "int" "tuple" = false := by decide
  have k4 : isiB "int" "str" = false := by decide
  have k5 : isiB "str" "bool" = false := by decide
  have k6 : isiB "str" "tuple" = false := by decide
  have k7 : isiB "str" "str" = true := by decide
  have k8 : isiB "int" "int" = true := by decide
  unfold likeB
  cases v with
  | non => simp [startP]
  | bl b => simp [startP, tyName, k1]
  | str s => simp [startP, tyName, k5, k6, k7]
  | int i =>
    have hi : D (n + 1) ("_law_is_int" : Str) [.int i] st = .ok (.bl true) st := by
      rw [hI]
      refine (call_ret (st' := st) (d := .bl true) ?_).trans (by rw [gc_same])
      unfold isIntB
      simp [startP, tyName, k2, k8]
    simp [startP, tyName, k2, k3, k4, hi]
  | _ => cases h
theorem like_ok {D : Nat → Cl} (hL : ∀ n xs, D (n + 1) ("_law_like" : Str) xs = callP (likeB (D n) (startP 3 xs))) (hI : ∀ n xs, D (n + 1) ("_law_is_int" : Str) xs = callP (isIntB (startP 1 xs))) : ∀ (d : Nat) (v w : PV) (n : Nat) (st : Store), Lk d v w → D (n + d + 2) ("_law_like" : Str) [v, w] st = .ok (.bl true) st
  | 0, v, w, n, st, h => by
    obtain ⟨h1, rfl⟩ := h
    exact like_atom hL hI h1 n st
  | d + 1, v, w, n, st, h => by
    rcases h with ⟨h1, rfl⟩ | ⟨xs, ys, hv, hw, hz, h⟩
    · exact like_atom hL hI h1 (n + (d + 1)) st
    · have hl := h.length
      have lv : ∀ s, bLen [v] s = .ok (.int xs.length) s := fun s => by rcases hv with rfl | rfl <;> rfl
      have lw : ∀ s, bLen [w] s = .ok (.int ys.length) s := fun s => by rcases hw with rfl | rfl <;> rfl
      have tv : tyName st v = some "tuple" := by rcases hv with rfl | rfl <;> rfl
      have tw : tyName st w = some "tuple" := by rcases hw with rfl | rfl <;> rfl
      have wn : decide (w = .non) = false := by rcases hw with rfl | rfl <;> rfl
      have gv : ∀ i x, xs[i]? = some x → getItemP v (.int (i : Nat)) st = .ok x st := fun i x e => by
        rcases hv with rfl | rfl <;> simp [getItemP, at_nat e]
      have gw : ∀ i x, ys[i]? = some x → getItemP w (.int (i : Nat)) st = .ok x st := fun i x e => by
        rcases hw with rfl | rfl <;> simp [getItemP, at_nat e]
      rw [show n + (d + 1) + 2 = (n + d + 2) + 1 from by omega, hL]
      refine (call_ret (st' := st) (d := .bl true) ?_).trans (by rw [gc_same])
      have k1 : isiB "tuple" "bool" = false := by decide
      have k2 : isiB "tuple" "tuple" = true := by decide
      have v0 : (startP 3 [v, w])[0]? = some (some v) := rfl
      have v1 : (startP 3 [v, w])[1]? = some (some w) := rfl
      have comp : (cCompN (wRange1 (cApp bLen (cArgs [cVar 1]))) (.name 2) (cTrue) (cCall 2 (D (n + d + 2) ("_law_like" : Str)) [] (cArgs [cBin getItemP (cVar 0) (cVar 2), cBin getItemP (cVar 1) (cVar 2)])) [2]) (startP 3 [v, w]) st = .ok (List.replicate xs.length (.bl true)) st := by
        have hr := range_ok (f := cApp bLen (cArgs [cVar 1])) (env := startP 3 [v, w]) (st := st) (st1 := st) (j := (ys.length : Nat)) ((app_ok (args_cons_ok (var_ok v1) args_nil_ok)).trans (lw st)) (by omega)
        have := comp_ok2 (t := .name 2) (tt := cTrue) (te := cCall 2 (D (n + d + 2) ("_law_like" : Str)) [] (cArgs [cBin getItemP (cVar 0) (cVar 2), cBin getItemP (cVar 1) (cVar 2)])) (own := [2]) hr gd_nil (by simp; have : sizeLine = 2 ^ 24 := rfl; omega) (all2_const (y := PV.bl true) fun z hz => by
          obtain ⟨i, hi, rfl⟩ := List.mem_map.mp hz
          rw [List.mem_range] at hi
          obtain ⟨x, y, e1, e2, hk⟩ := all2_get h i (by omega)
          refine ⟨(wipeP (startP 3 [v, w]) [2]).set 2 (some (.int (i : Nat))), rfl, rfl, ?_⟩
          have w0 : ((wipeP (startP 3 [v, w]) [2]).set 2 (some (.int (i : Nat))))[0]? = some (some v) := rfl
          have w1 : ((wipeP (startP 3 [v, w]) [2]).set 2 (some (.int (i : Nat))))[1]? = some (some w) := rfl
          have w2 : ((wipeP (startP 3 [v, w]) [2]).set 2 (some (.int (i : Nat))))[2]? = some (some (.int (i : Nat))) := rfl
          exact call_ok' (args_cons_ok ((bin_ok (var_ok w0) (var_ok w2)).trans (gv i x e1)) (args_cons_ok ((bin_ok (var_ok w1) (var_ok w2)).trans (gw i y e2)) args_nil_ok)) rfl (like_ok hL hI d x y n st hk))
        simpa [hl] using this
      have fin := (app_ok (F := lAll) comp).trans lAll_rep
      have e : ((xs.length : Int) == (ys.length : Int)) = true := by simp [hl]
      unfold likeB
      simp only [run_seq, run_if, run_ret, run_test, run_bin, run_var, v0, v1, run_c, isN_ok, wn, run_asBool, Bool.false_eq_true, if_false, run_next, run_truth, run_isi, tw, tv, k1, k2, truth_bl, if_true, run_or, run_or1, run_not, Bool.not_true, run_app, run_args, run_args0, lv, lw, ne_ii, e, fin]
      simp only [run_app] at fin
      simp [fin]
end PyI

/-! PyL2: the drawn numbers. -/
namespace PyI
open PySem L2
theorem append_ok {n : Nat} {st : Store} {xs : List PV} {x : PV} (h : st[n]? = some (.lst xs)) (hl : xs.length < sizeLine) : mAppend (.obj n) [x] st = .ok .non (st.set n (.lst (xs ++ [x]))) := by
  simp [mAppend, h, hl]
theorem met_ok {F : PV → List PV → M PV} {fo : Dn} {fs : Ln} {env : EnvP} {st st1 st2 : Store} {n : Nat} {ys xs : List PV} (ho : fo env st = .ok (.obj n) st1) (hn : st1[n]? = some (.lst ys)) (hs : fs env st1 = .ok xs st2) : cMet "list" F fo fs env st = F (.obj n) xs st2 := by
  unfold cMet
  rw [bind_ok ho]
  have : tyOk "list" st1 (.obj n) = true := by simp [tyOk, hn]
  simp only [this, if_true]
  rw [bind_ok hs]
theorem asg_tup {f : Dn} {ts : List Tg} {env env' : EnvP} {st st' : Store} {d : PV} (h : f env st = .ok d st') (ht : setT (.tup ts) d env st' = .ok env' st') : sAsg f (.tup ts) env st = .ok (.nx env') st' := by
  show ((f env >>= _) st) = _
  rw [bind_ok h]
  exact bind_ok ht
theorem for_ok {wi : Wn} {t : Tg} {body : Sm} {env : EnvP} {st st1 st2 : Store} {p : List PV × Guard} {fl : Fl} (hw : wi env st = .ok p st1) (h : forLoop t body p.2 p.1 env st1 = .ok fl st2) : sFor wi t body env st = .ok fl st2 := by
  unfold sFor
  rw [bind_ok hw, h]
theorem set_last {st : Store} {n : Nat} {a b : Ob} (h : st.length = n) : (st ++ [a]).set n b = st ++ [b] := by
  rw [List.set_append, if_neg (by omega), h, Nat.sub_self] <;> rfl
theorem get_last {st : Store} {n : Nat} {a : Ob} (h : st.length = n) : (st ++ [a])[n]? = some a := by rw [← h]; simp
theorem mulR {i j : Int} {st : Store} (h : -(2 ^ 64) < j ∧ j < 2 ^ 64) : opMul (.int i) (.int j) st = .ok (.int (i * j)) st := ii_ok (.inr h)
theorem divR {i j : Int} {st : Store} (h : 0 < j ∧ j < 1073741824) : opFdiv (.int i) (.int j) st = .ok (.int (i / j)) st := ii_ok h
theorem mixed_ok (ns : List Int) (k : Nat) (st : Store) : ∃ v : Nat, v ≤ 1000002 ∧ callP (mixedB (startP 6 [.ilst (ns.map PV.int), .int (k : Nat)])) st = .ok (.int (v : Nat)) st := by
  -- the cell
  have hcell : ∃ c : Int, sSeq (sAsg (cC (.int (0))) (.name 2)) (sSeq (sIf (cTest (cBin opGt (cApp bLen (cArgs [cVar 0])) (cC (.int (0))))) (sSeq (sAsg (cBin getItemP (cVar 0) (cBin opMod (cVar 1) (cApp bLen (cArgs [cVar 0])))) (.name 2)) (sNext)) (sNext)) sNext) (startP 6 [.ilst (ns.map PV.int), .int (k : Nat)]) st = .ok (.nx [some (.ilst (ns.map PV.int)), some (.int (k : Nat)), some (.int c), none, none, none]) st := by
    cases ns with
    | nil => exact ⟨0, by simp [startP]⟩
    | cons a r =>
      have hlen : (0 : Int) < (((a :: r).map PV.int).length : Int) := by
        have : 0 < ((a :: r).map PV.int).length := by simp
        omega
      have hix : ((k : Int) % (((a :: r).map PV.int).length : Int)) = ((k % ((a :: r).map PV.int).length : Nat) : Int) := by omega
      have hlt : k % ((a :: r).map PV.int).length < ((a :: r).map PV.int).length := Nat.mod_lt _ (by simp)
      obtain ⟨c0, hget⟩ : ∃ c0 : Int, ((a :: r).map PV.int)[k % ((a :: r).map PV.int).length]? = some (.int c0) :=
        ⟨(a :: r)[k % ((a :: r).map PV.int).length]'(by simpa using hlt), by rw [List.getElem?_map, List.getElem?_eq_getElem (by simpa using hlt)]; rfl⟩
      have hat := at_nat hget
      refine ⟨c0, ?_⟩
      have hlen' : 0 < ((a :: r).map PV.int).length := by simp
      generalize (a :: r).map PV.int = L at *
      have hg : getItemP (.ilst L) (.int ((k % L.length : Nat) : Int)) st = .ok (.int c0) st := by
        unfold getItemP
        simp only [hat]
      rw [← hix] at hg
      simp only [run_seq, run_asg, run_c, run_if, run_test, run_bin, run_app, run_args, run_args0, run_var, startP, run_len_ilst, gt_ii, run_asBool]
      simp [hlen', hg]
  obtain ⟨c, hc⟩ := hcell
  generalize h1 : (c * 48271 + (k : Int) * 69621 + 8191) % 2147483647 = f1
  have b1 : 0 ≤ f1 ∧ f1 < 2147483647 := by rw [← h1]; exact ⟨Int.emod_nonneg _ (by omega), Int.emod_lt_of_pos _ (by omega)⟩
  generalize h2 : (f1 * f1 + f1 / 7 + (k : Int) * 16807) % 2147483629 = f2
  have b2 : 0 ≤ f2 ∧ f2 < 2147483629 := by rw [← h2]; exact ⟨Int.emod_nonneg _ (by omega), Int.emod_lt_of_pos _ (by omega)⟩
  generalize h3 : (f2 * f2 + f2 / 11 + 40692) % 2147483563 = f3
  generalize h4 : f3 / 5 % 1000003 = f4
  have b4 : 0 ≤ f4 ∧ f4 < 1000003 := by rw [← h4]; exact ⟨Int.emod_nonneg _ (by omega), Int.emod_lt_of_pos _ (by omega)⟩
  refine ⟨f4.toNat, by omega, ?_⟩
  have e4 : ((f4.toNat : Nat) : Int) = f4 := by omega
  rw [e4]
  refine (call_ret (st' := st) (d := .int f4) ?_).trans (by rw [gc_same])
  have m1 : opMul (.int c) (.int 48271) st = .ok (.int (c * 48271)) st := mulR (by omega)
  have m2 : opMul (.int (k : Int)) (.int 69621) st = .ok (.int ((k : Int) * 69621)) st := mulR (by omega)
  have m3 : opMul (.int f1) (.int f1) st = .ok (.int (f1 * f1)) st := mulR (by omega)
  have m4 : opMul (.int (k : Int)) (.int 16807) st = .ok (.int ((k : Int) * 16807)) st := mulR (by omega)
  have m5 : opMul (.int f2) (.int f2) st = .ok (.int (f2 * f2)) st := mulR (by omega)
  have d1 : opFdiv (.int f1) (.int 7) st = .ok (.int (f1 / 7)) st := divR (by omega)
  have d2 : opFdiv (.int f2) (.int 11) st = .ok (.int (f2 / 11)) st := divR (by omega)
  have d3 : opFdiv (.int f3) (.int 5) st = .ok (.int (f3 / 5)) st := divR (by omega)
  -- the rest of the body behind the cell
  have split : ∀ (rest : Sm) (env : EnvP) (a b : Sm), sSeq a (sSeq b sNext) env st = .ok (.nx [some (.ilst (ns.map PV.int)), some (.int (k : Nat)), some (.int c), none, none, none]) st → sSeq a (sSeq b rest) env st = rest [some (.ilst (ns.map PV.int)), some (.int (k : Nat)), some (.int c), none, none, none] st := by
    intro rest env a b h
    rw [run_seq] at h ⊢
    cases q : a env st with
    | ok fl st1 =>
      rw [q] at h
      cases fl with
      | nx env1 =>
        simp only at h ⊢
        rw [run_seq] at h ⊢
        cases q2 : b env1 st1 with
        | ok fl2 st2 =>
          rw [q2] at h
          cases fl2 with
          | nx env2 =>
            simp only [run_next] at h ⊢
            cases h
            rfl
          | _ => simp at h
        | ex => rw [q2] at h; simp at h
        | no => rw [q2] at h; simp at h
      | _ => simp at h
    | ex => rw [q] at h; simp at h
    | no => rw [q] at h; simp at h
  unfold mixedB
  rw [split _ _ _ _ hc]
  have mo : ∀ {i j r : Int}, 0 < j → i % j = r → opMod (.int i) (.int j) st = .ok (.int r) st := fun h e => by rw [mod_ii h, e]
  have i1 : ∀ {f : Dn} {env : EnvP} {i : Int}, f env st = .ok (.int i) st → (cApp bInt2 (cArgs [f])) env st = .ok (.int i) st := fun h => (app_ok (args_cons_ok h args_nil_ok)).trans run_int2_int
  generalize hL : PV.ilst (ns.map PV.int) = L
  refine (seq_nx (asg_name ((bin_ok (i1 ((bin_ok ((bin_ok ((bin_ok (var_ok rfl) c_ok).trans m1) ((bin_ok (var_ok rfl) c_ok).trans m2)).trans add_ii) c_ok).trans add_ii)) c_ok).trans (mo (by omega) h1)))).trans ?_
  refine (seq_nx (asg_name ((bin_ok (i1 ((bin_ok ((bin_ok ((bin_ok (var_ok rfl) (var_ok rfl)).trans m3) ((bin_ok (var_ok rfl) c_ok).trans d1)).trans add_ii) ((bin_ok (var_ok rfl) c_ok).trans m4)).trans add_ii)) c_ok).trans (mo (by omega) h2)))).trans ?_
  refine (seq_nx (asg_name ((bin_ok (i1 ((bin_ok ((bin_ok ((bin_ok (var_ok rfl) (var_ok rfl)).trans m5) ((bin_ok (var_ok rfl) c_ok).trans d2)).trans add_ii) c_ok).trans add_ii)) c_ok).trans (mo (by omega) h3)))).trans ?_
  exact seq_ret (ret_ok ((bin_ok ((bin_ok (var_ok rfl) c_ok).trans d3) c_ok).trans (mo (by omega) h4)))
/-- one more number -/
theorem row_turn {D : Nat → Cl} (hM : ∀ n xs, D (n + 1) ("_law_mixed" : Str) xs = callP (mixedB (startP 6 xs))) {n : Nat} {ns : List Int} {st : Store} {acc : List Nat} {k : Nat} {b : Int} {many : PV} (hl : acc.length < 1000000) :
    ∃ (v : Nat) (b' : Int), v ≤ 1000002 ∧ rowBody (D (n + 1)) [some (.ilst (ns.map PV.int)), some many, some (.int b), some (.obj st.length), some (.int (k : Nat))] (st ++ [.lst (acc.map fun v => PV.int (v : Nat))]) =
      .ok (.nx [some (.ilst (ns.map PV.int)), some many, some (.int b'), some (.obj st.length), some (.int (k : Nat))]) (st ++ [.lst ((acc ++ [v]).map fun v => PV.int (v : Nat))]) := by
  have hz : (acc.map fun v => PV.int (v : Nat)).length < sizeLine := by have : sizeLine = 2 ^ 24 := rfl; simp; omega
  generalize hA : (acc.map fun v => PV.int (v : Nat)) = A at *
  have ap : ∀ v : Nat, mAppend (.obj st.length) [.int (v : Nat)] (st ++ [.lst A]) = .ok .non (st ++ [.lst ((acc ++ [v]).map fun v => PV.int (v : Nat))]) := fun v => by
    rw [append_ok (get_last rfl) hz, set_last rfl, ← hA, List.map_append]
    rfl
  generalize hE : ([some (.ilst (ns.map PV.int)), some many, some (.int b), some (.obj st.length), some (.int (k : Nat))] : EnvP) = env
  have v0 : env[0]? = some (some (.ilst (ns.map PV.int))) := by rw [← hE]; rfl
  have v2 : env[2]? = some (some (.int b)) := by rw [← hE]; rfl
  have v3 : env[3]? = some (some (.obj st.length)) := by rw [← hE]; rfl
  have v4 : env[4]? = some (some (.int (k : Nat))) := by rw [← hE]; rfl
  have t : (cTest (cBin opGt (cVar 2) (cC (.int (0))))) env (st ++ [.lst A]) = .ok (decide (0 < b)) (st ++ [.lst A]) := by
    refine test_ok ((bin_ok (var_ok v2) c_ok).trans gt_ii)
  unfold rowBody
  by_cases hb : 0 < b
  · rw [decide_eq_true hb] at t
    have b1 : 0 ≤ b % 1000 ∧ b % 1000 < 1000 := ⟨Int.emod_nonneg _ (by decide), Int.emod_lt_of_pos _ (by decide)⟩
    refine ⟨(b % 1000).toNat, b / 1000, by omega, ?_⟩
    have e : (b % 1000) = (((b % 1000).toNat : Nat) : Int) := by omega
    have x1 : (cArgs [cBin opMod (cApp bInt2 (cArgs [cVar 2])) (cC (.int (1000)))]) env (st ++ [.lst A]) = .ok [.int ((b % 1000).toNat : Nat)] (st ++ [.lst A]) := by
      refine args_cons_ok (((bin_ok (app_ok (args_cons_ok (var_ok v2) args_nil_ok)) c_ok).trans (mod_ii (by decide))).trans ?_) args_nil_ok
      rw [← e]
    have x2 := (met_ok (F := mAppend) (fo := cVar 3) (var_ok v3) (get_last rfl) x1).trans (ap _)
    have x3 : (cBin opFdiv (cVar 2) (cC (.int (1000)))) env (st ++ [.lst ((acc ++ [(b % 1000).toNat]).map fun v => PV.int (v : Nat))]) = .ok (.int (b / 1000)) (st ++ [.lst ((acc ++ [(b % 1000).toNat]).map fun v => PV.int (v : Nat))]) :=
      (bin_ok (var_ok v2) c_ok).trans (divR (by decide))
    refine (seq_nx ((if_t t).trans ((seq_nx (drop_ok x2)).trans ((seq_nx (asg_name x3)).trans rfl)))).trans ?_
    rw [← hE]
    rfl
  · rw [decide_eq_false hb] at t
    obtain ⟨v, hv, hm⟩ := mixed_ok ns k (st ++ [.lst A])
    refine ⟨v, b, hv, ?_⟩
    have x1 : (cArgs [cCall 2 (D (n + 1) ("_law_mixed" : Str)) [] (cArgs [cVar 0, cVar 4])]) env (st ++ [.lst A]) = .ok [.int (v : Nat)] (st ++ [.lst A]) :=
      args_cons_ok (call_ok' (args_cons_ok (var_ok v0) (args_cons_ok (var_ok v4) args_nil_ok)) rfl (by rw [hM]; exact hm)) args_nil_ok
    have x2 := (met_ok (F := mAppend) (fo := cVar 3) (var_ok v3) (get_last rfl) x1).trans (ap _)
    refine (seq_nx ((if_f t).trans ((seq_nx (drop_ok x2)).trans rfl))).trans ?_
    rw [← hE]
    rfl
theorem row_loop {D : Nat → Cl} (hM : ∀ n xs, D (n + 1) ("_law_mixed" : Str) xs = callP (mixedB (startP 6 xs))) {n : Nat} {ns : List Int} {st : Store} {many : PV} : ∀ (its : List Nat) (acc : List Nat) (b : Int) (k0 : Option PV), (∀ v ∈ acc, v ≤ 1000002) → acc.length + its.length ≤ 1000000 →
    ∃ (vs : List Nat) (b' : Int) (k' : Option PV), vs.length = acc.length + its.length ∧ (∀ v ∈ vs, v ≤ 1000002) ∧
      forLoop (.name 4) (rowBody (D (n + 1))) [] (its.map fun i => PV.int (i : Nat)) [some (.ilst (ns.map PV.int)), some many, some (.int b), some (.obj st.length), k0] (st ++ [.lst (acc.map fun v => PV.int (v : Nat))]) =
      .ok (.nx [some (.ilst (ns.map PV.int)), some many, some (.int b'), some (.obj st.length), k']) (st ++ [.lst (vs.map fun v => PV.int (v : Nat))])
  | [], acc, b, k0, ha, _ => ⟨acc, b, k0, by simp, ha, by simp [forLoop]⟩
  | i :: its, acc, b, k0, ha, hl => by
    obtain ⟨v, b1, hv, ht⟩ := row_turn hM (n := n) (ns := ns) (st := st) (acc := acc) (k := i) (b := b) (many := many) (by simp at hl; omega)
    obtain ⟨vs, b', k', h1, h2, h3⟩ := row_loop hM (n := n) (ns := ns) (st := st) (many := many) its (acc ++ [v]) b1 (some (.int (i : Nat))) (fun w hw => by
      rcases List.mem_append.mp hw with hw | hw
      · exact ha w hw
      · rw [List.mem_singleton.mp hw]; exact hv) (by simp at hl ⊢; omega)
    refine ⟨vs, b', k', by simp at h1 ⊢; omega, h2, ?_⟩
    rw [List.map_cons]
    unfold forLoop
    rw [bind_ok (show setT (.name 4) (.int (i : Nat)) [some (.ilst (ns.map PV.int)), some many, some (.int b), some (.obj st.length), k0] (st ++ [.lst (acc.map fun v => PV.int (v : Nat))]) = .ok [some (.ilst (ns.map PV.int)), some many, some (.int b), some (.obj st.length), some (.int (i : Nat))] _ from rfl), bind_ok ht]
    exact h3
theorem row_ok {D : Nat → Cl} (hR : ∀ n xs, D (n + 1) ("_law_row" : Str) xs = callP (rowB (D n) (startP 5 xs))) (hM : ∀ n xs, D (n + 1) ("_law_mixed" : Str) xs = callP (mixedB (startP 6 xs))) {n : Nat} (ns : List Int) (many : Nat) (hm : many ≤ 1000000) (st : Store) :
    ∃ vs : List Nat, vs.length = many ∧ (∀ v ∈ vs, v ≤ 1000002) ∧ D (n + 2) ("_law_row" : Str) [.ilst (ns.map PV.int), .int (many : Nat)] st = .ok (.obj st.length) (st ++ [.lst (vs.map fun v => PV.int (v : Nat))]) := by
  have hbig : ∃ b : Int, sIf (cAnds [cTest (cBin opGt (cApp bLen (cArgs [cVar 0])) (cC (.int (0)))), cTest (cBin opGe (cBin getItemP (cVar 0) (cC (.int (0)))) (cBin opPow (cC (.int (10))) (cC (.int (18)))))]) (sSeq (sAsg (cBin getItemP (cVar 0) (cC (.int (0)))) (.name 2)) (sNext)) (sNext) ((startP 5 [.ilst (ns.map PV.int), .int (many : Nat)]).set 2 (some (.int 0))) st =
      .ok (.nx [some (.ilst (ns.map PV.int)), some (.int (many : Nat)), some (.int b), none, none]) st := by
    cases ns with
    | nil => exact ⟨0, by simp [startP]⟩
    | cons a r =>
      have hp : opPow (.int 10) (.int 18) st = .ok (.int (10 ^ 18)) st := ii_ok (by unfold CPow; decide)
      have hlen : (0 : Int) < (((a :: r).map PV.int).length : Int) := by
        have : 0 < ((a :: r).map PV.int).length := by simp
        omega
      have hg : getItemP (.ilst ((a :: r).map PV.int)) (.int 0) st = .ok (.int a) st := by
        unfold getItemP
        have := at_zero (x := PV.int a) (xs := r.map PV.int)
        rw [List.map_cons]
        simp only [this]
      by_cases h : (10 ^ 18 : Int) ≤ a
      · refine ⟨a, ?_⟩
        have h' : (1000000000000000000 : Int) ≤ a := h
        have hlen' : 0 < ((a :: r).map PV.int).length := by simp
        generalize (a :: r).map PV.int = L at *
        simp only [run_seq, run_asg, run_c, run_if, run_and, run_and1, run_test, run_bin, run_app, run_args, run_args0, run_var, startP, run_len_ilst, gt_ii, run_asBool]
        simp [hlen', hp, hg, h']
      · refine ⟨0, ?_⟩
        have h' : ¬ (1000000000000000000 : Int) ≤ a := h
        have hlen' : 0 < ((a :: r).map PV.int).length := by simp
        generalize (a :: r).map PV.int = L at *
        simp only [run_seq, run_asg, run_c, run_if, run_and, run_and1, run_test, run_bin, run_app, run_args, run_args0, run_var, startP, run_len_ilst, gt_ii, run_asBool]
        simp [hlen', hp, hg, h']
  obtain ⟨b, hb⟩ := hbig
  obtain ⟨vs, b', k', h1, h2, h3⟩ := row_loop hM (n := n) (ns := ns) (st := st) (many := .int (many : Nat)) (List.range many) [] b none (fun v hv => by cases hv) (by simpa using hm)
  refine ⟨vs, by simpa using h1, h2, ?_⟩
  rw [show n + 2 = (n + 1) + 1 from rfl, hR]
  refine (call_ret (st' := st ++ [.lst (vs.map fun v => PV.int (v : Nat))]) (d := .obj st.length) ?_).trans ?_
  · unfold rowB
    refine (seq_nx (asg_name c_ok)).trans ?_
    refine (seq_nx hb).trans ?_
    refine (seq_nx (asg_name (keep_ok (lst_ok args_nil_ok (Nat.zero_le _))))).trans ?_
    have w : wRange1 (cVar 1) ([some (.ilst (ns.map PV.int)), some (.int (many : Nat)), some (.int b), none, none].set 3 (some (.obj st.length))) (st ++ [.lst []]) = .ok ((List.range many).map fun i => PV.int (i : Nat), []) (st ++ [.lst []]) := by
      have := range_ok (f := cVar 1) (env := ([some (.ilst (ns.map PV.int)), some (.int (many : Nat)), some (.int b), none, none].set 3 (some (.obj st.length)))) (st := st ++ [.lst []]) (st1 := st ++ [.lst []]) (j := (many : Nat)) (var_ok rfl) (by omega)
      simpa using this
    refine (seq_nx (for_ok w h3)).trans ?_
    exact seq_ret (ret_ok (var_ok rfl))
  · unfold gcP
    rw [if_neg fun z => by have := z.1; simp [PV.bound] at this]
end PyI

/-! PyB: the plain readings of the defs, each body once (printed by mkshared.py). -/
namespace Sh
open PySem PyI
abbrev Cl := Str → List PV → M PV
abbrev Ar := Str → Option (Nat × List PV)
def kd_FORMS : List (Str × PV) := [(("hello" : Str), .ctup [.str ("site" : Str), .str ("site" : Str)]), (("send" : Str), .ctup [.str ("site" : Str), .str ("site" : Str), .str ("filler" : Str)]), (("give" : Str), .ctup [.str ("number" : Str), .str ("number" : Str), .str ("number" : Str)]), (("make" : Str), .ctup [.str ("plan" : Str), .str ("number" : Str), .str ("number" : Str)]), (("move" : Str), .ctup [.str ("site" : Str), .str ("number" : Str)]), (("restart" : Str), .ctup [.str ("site" : Str)]), (("adopt" : Str), .ctup [.str ("site" : Str), .str ("number" : Str)]), (("capture" : Str), .ctup [.str ("site" : Str)])]
def kd_LENGTHS : List (Str × PV) := [(("see" : Str), .int (2)), (("say" : Str), .int (2)), (("count" : Str), .int (2)), (("left" : Str), .int (2)), (("right" : Str), .int (2)), (("open" : Str), .int (3)), (("stamp" : Str), .int (3)), (("join" : Str), .int (3)), (("close" : Str), .int (4))]
/-- 6 names, 2 of them asked -/
def b_law_mixed (ar : Ar) (cl : Cl) : Sm :=
 sSeq (sAsg (cC (.int (0))) (.name 2)) (
 sSeq (sIf (cTest (cBin opGt (cApp bLen (cArgs [cVar 0])) (cC (.int (0))))) (sSeq (sAsg (cBin getItemP (cVar 0) (cBin opMod (cVar 1) (cApp bLen (cArgs [cVar 0])))) (.name 2)) (
   sNext)) (sNext)) (
 sSeq (sAsg (cBin opMod (cApp bInt2 (cArgs [cBin opAdd (cBin opAdd (cBin opMul (cVar 2) (cC (.int (48271)))) (cBin opMul (cVar 1) (cC (.int (69621))))) (cC (.int (8191)))])) (cC (.int (2147483647)))) (.name 3)) (
 sSeq (sAsg (cBin opMod (cApp bInt2 (cArgs [cBin opAdd (cBin opAdd (cBin opMul (cVar 3) (cVar 3)) (cBin opFdiv (cVar 3) (cC (.int (7))))) (cBin opMul (cVar 1) (cC (.int (16807))))])) (cC (.int (2147483629)))) (.name 4)) (
 sSeq (sAsg (cBin opMod (cApp bInt2 (cArgs [cBin opAdd (cBin opAdd (cBin opMul (cVar 4) (cVar 4)) (cBin opFdiv (cVar 4) (cC (.int (11))))) (cC (.int (40692)))])) (cC (.int (2147483563)))) (.name 5)) (
 sSeq (sRet (cBin opMod (cBin opFdiv (cVar 5) (cC (.int (5)))) (cC (.int (1000003))))) (
 sNext))))))
/-- 5 names, 2 of them asked -/
def b_law_row (ar : Ar) (cl : Cl) : Sm :=
 sSeq (sAsg (cC (.int (0))) (.name 2)) (
 sSeq (sIf (cAnds [cTest (cBin opGt (cApp bLen (cArgs [cVar 0])) (cC (.int (0)))), cTest (cBin opGe (cBin getItemP (cVar 0) (cC (.int (0)))) (cBin opPow (cC (.int (10))) (cC (.int (18)))))]) (sSeq (sAsg (cBin getItemP (cVar 0) (cC (.int (0)))) (.name 2)) (
   sNext)) (sNext)) (
 sSeq (sAsg (cKeep (cLst (cArgs []))) (.name 3)) (
 sSeq (sFor (wRange1 (cVar 1)) (.name 4) (sSeq (sIf (cTest (cBin opGt (cVar 2) (cC (.int (0))))) (sSeq (sDrop (cMet "list" mAppend (cVar 3) (cArgs [cBin opMod (cApp bInt2 (cArgs [cVar 2])) (cC (.int (1000)))]))) (
     sSeq (sAsg (cBin opFdiv (cVar 2) (cC (.int (1000)))) (.name 2)) (
     sNext))) (sSeq (sDrop (cMet "list" mAppend (cVar 3) (cArgs [cCall 2 (cl ("_law_mixed" : Str)) [] (cArgs [cVar 0, cVar 4])]))) (
     sNext))) (
   sNext))) (
 sSeq (sRet (cVar 3)) (
 sNext)))))
/-- 1 names, 1 of them asked -/
def b_law_is_int (ar : Ar) (cl : Cl) : Sm :=
 sSeq (sRet (cAndsV [cIsi (cVar 0) "int", cNotV (cIsi (cVar 0) "bool")])) (
 sNext)
/-- 2 names, 2 of them asked -/
def b_law_deed (ar : Ar) (cl : Cl) : Sm :=
 sSeq (sIf (cTest (cBin opLt (cVar 0) (cC (.int (3))))) (sSeq (sRet (cBin getItemP (cTup (cArgs [cC (.str ("none" : Str)), cC (.str ("move" : Str)), cC (.str ("bare" : Str)), cC (.str ("wipe" : Str)), cC (.str ("move" : Str)), cC (.str ("move" : Str))])) (cBin opMod (cApp bInt2 (cArgs [cVar 1])) (cC (.int (6)))))) (
   sNext)) (sNext)) (
 sSeq (sIf (cTest (cBin (opEqB false) (cVar 0) (cC (.int (3))))) (sSeq (sRet (cBin getItemP (cTup (cArgs [cC (.str ("none" : Str)), cC (.str ("mark" : Str)), cC (.str ("wipe" : Str)), cC (.str ("mark" : Str))])) (cBin opMod (cApp bInt2 (cArgs [cVar 1])) (cC (.int (4)))))) (
   sNext)) (sNext)) (
 sSeq (sRet (cBin getItemP (cTup (cArgs [cC (.str ("none" : Str)), cC (.str ("wipe" : Str)), cC (.str ("none" : Str)), cC (.str ("none" : Str))])) (cBin opMod (cApp bInt2 (cArgs [cVar 1])) (cC (.int (4)))))) (
 sNext)))
/-- 9 names, 3 of them asked -/
def b_law_window (ar : Ar) (cl : Cl) : Sm :=
 sSeq (sAsg (cKeep (cLst (cArgs []))) (.name 3)) (
 sSeq (sFor (wRange1 (cVar 2)) (.name 4) (sSeq (sAsg (cKeep (cLst (cArgs []))) (.name 5)) (
   sSeq (sFor (wRange1 (cC (.int (6)))) (.name 6) (sSeq (sAsg (cBin opAdd (cVar 1) (cBin opMul (cC (.int (4))) (cBin opAdd (cBin opMul (cC (.int (6))) (cVar 4)) (cVar 6)))) (.name 7)) (
     sSeq (sAsg (cBin opGt (cBin opMod (cBin getItemP (cVar 0) (cVar 7)) (cC (.int (3)))) (cC (.int (0)))) (.name 8)) (
     sSeq (sIf (cTest (cBin opGt (cVar 6) (cC (.int (3))))) (sSeq (sAsg (cBin (opEqB false) (cBin opMod (cBin getItemP (cVar 0) (cVar 7)) (cC (.int (4)))) (cC (.int (0)))) (.name 8)) (
       sNext)) (sNext)) (
     sSeq (sDrop (cMet "list" mAppend (cVar 5) (cArgs [cTup (cArgs [cVar 8, cBin (opEqB false) (cBin opMod (cBin getItemP (cVar 0) (cBin opAdd (cVar 7) (cC (.int (1))))) (cC (.int (2)))) (cC (.int (0))), cCall 2 (cl ("_law_deed" : Str)) [] (cArgs [cVar 6, cBin getItemP (cVar 0) (cBin opAdd (cVar 7) (cC (.int (2))))]), cBin opMod (cApp bInt2 (cArgs [cBin getItemP (cVar 0) (cBin opAdd (cVar 7) (cC (.int (3))))])) (cVar 2)])]))) (
     sNext)))))) (
   sSeq (sDrop (cMet "list" mAppend (cVar 3) (cArgs [cApp bTuple (cArgs [cVar 5])]))) (
   sNext))))) (
 sSeq (sRet (cApp bTuple (cArgs [cVar 3]))) (
 sNext)))
/-- 9 names, 3 of them asked -/
def b_law_hellos (ar : Ar) (cl : Cl) : Sm :=
 sSeq (sAsg (cKeep (cLst (cArgs []))) (.name 3)) (
 sSeq (sFor (wRange1 (cVar 2)) (.name 4) (sSeq (sAsg (cKeep (cLst (cArgs []))) (.name 5)) (
   sSeq (sFor (wRange1 (cC (.int (5)))) (.name 6) (sSeq (sAsg (cBin opAdd (cVar 1) (cBin opMul (cC (.int (2))) (cBin opAdd (cBin opMul (cC (.int (5))) (cVar 4)) (cVar 6)))) (.name 7)) (
     sSeq (sAsg (cTup (cArgs [cC (.str ("ignore" : Str)), cC (.str ("open" : Str)), cC (.str ("ignore" : Str)), cC (.str ("open" : Str))])) (.name 8)) (
     sSeq (sIf (cTest (cBin (opEqB false) (cBin opMod (cVar 6) (cC (.int (2)))) (cC (.int (1))))) (sSeq (sAsg (cTup (cArgs [cC (.str ("ignore" : Str)), cC (.str ("anew" : Str)), cC (.str ("front" : Str)), cC (.str ("drop" : Str))])) (.name 8)) (
       sNext)) (sNext)) (
     sSeq (sIf (cTest (cBin (opEqB false) (cVar 6) (cC (.int (4))))) (sSeq (sAsg (cTup (cArgs [cC (.str ("open" : Str)), cC (.str ("open" : Str)), cC (.str ("ignore" : Str)), cC (.str ("open" : Str))])) (.name 8)) (
       sNext)) (sNext)) (
     sSeq (sDrop (cMet "list" mAppend (cVar 5) (cArgs [cTup (cArgs [cBin getItemP (cVar 8) (cBin opMod (cApp bInt2 (cArgs [cBin getItemP (cVar 0) (cVar 7)])) (cC (.int (4)))), cBin opMod (cApp bInt2 (cArgs [cBin getItemP (cVar 0) (cBin opAdd (cVar 7) (cC (.int (1))))])) (cVar 2)])]))) (
     sNext))))))) (
   sSeq (sDrop (cMet "list" mAppend (cVar 3) (cArgs [cApp bTuple (cArgs [cVar 5])]))) (
   sNext))))) (
 sSeq (sRet (cApp bTuple (cArgs [cVar 3]))) (
 sNext)))
/-- 3 names, 1 of them asked -/
def b_law_power (ar : Ar) (cl : Cl) : Sm :=
 sSeq (sAsg (cC (.int (1))) (.name 1)) (
 sSeq (sFor (wRange1 (cVar 0)) (.name 2) (sSeq (sAsg (cBin opMul (cC (.int (2))) (cVar 1)) (.name 1)) (
   sNext))) (
 sSeq (sRet (cVar 1)) (
 sNext)))
/-- 3 names, 2 of them asked -/
def b_law_prefix (ar : Ar) (cl : Cl) : Sm :=
 sSeq (sAsg (cBin opMod (cApp bInt2 (cArgs [cVar 0])) (cBin opAdd (cVar 1) (cC (.int (1))))) (.name 2)) (
 sSeq (sRet (cTup (cArgs [cVar 2, cBin opMod (cBin opFdiv (cApp bInt2 (cArgs [cVar 0])) (cBin opAdd (cVar 1) (cC (.int (1))))) (cCall 1 (cl ("_law_power" : Str)) [] (cArgs [cVar 2]))]))) (
 sNext))
/-- 9 names, 5 of them asked -/
def b_law_edition (ar : Ar) (cl : Cl) : Sm :=
 sSeq (sAsg (cKeep (cLst (cArgs []))) (.name 5)) (
 sSeq (sAsg (cKeep (cLst (cArgs []))) (.name 6)) (
 sSeq (sFor (wRange1 (cBin opMod (cApp bInt2 (cArgs [cBin getItemP (cVar 0) (cVar 1)])) (cBin opAdd (cVar 3) (cC (.int (1)))))) (.name 7) (sSeq (sAsg (cTup (cArgs [cCall 2 (cl ("_law_prefix" : Str)) [] (cArgs [cBin getItemP (cVar 0) (cBin opAdd (cBin opAdd (cVar 1) (cC (.int (1)))) (cBin opMul (cC (.int (3))) (cVar 7))), cVar 2]), cCall 2 (cl ("_law_prefix" : Str)) [] (cArgs [cBin getItemP (cVar 0) (cBin opAdd (cBin opAdd (cVar 1) (cC (.int (2)))) (cBin opMul (cC (.int (3))) (cVar 7))), cVar 2])])) (.name 8)) (
   sSeq (sIf (cTest (cBin (opInB true) (cVar 8) (cVar 6))) (sSeq (sDrop (cMet "list" mAppend (cVar 6) (cArgs [cVar 8]))) (
     sSeq (sDrop (cMet "list" mAppend (cVar 5) (cArgs [cBin opAdd (cVar 8) (cTup (cArgs [cBin opMod (cApp bInt2 (cArgs [cBin getItemP (cVar 0) (cBin opAdd (cBin opAdd (cVar 1) (cC (.int (3)))) (cBin opMul (cC (.int (3))) (cVar 7)))])) (cBin opAdd (cVar 4) (cC (.int (1))))]))]))) (
     sNext))) (sNext)) (
   sNext)))) (
 sSeq (sRet (cTup (cArgs [cVar 2, cApp lTuple (cSorted (cVar 5))]))) (
 sNext))))
/-- 9 names, 1 of them asked -/
def b_law_k91 (ar : Ar) (cl : Cl) : Sm :=
 sSeq (sAsg (cCall 2 (cl ("_law_row" : Str)) [] (cArgs [cVar 0, cC (.int (200))])) (.name 1)) (
 sSeq (sAsg (cBin opAdd (cC (.int (1))) (cBin opMod (cApp bInt2 (cArgs [cBin getItemP (cVar 1) (cC (.int (0)))])) (cC (.int (4))))) (.name 2)) (
 sSeq (sAsg (cBin opAdd (cC (.int (1))) (cBin opMod (cApp bInt2 (cArgs [cBin getItemP (cVar 1) (cC (.int (1)))])) (cC (.int (3))))) (.name 3)) (
 sSeq (sAsg (cCall 3 (cl ("_law_window" : Str)) [] (cArgs [cVar 1, cC (.int (2)), cBin opAdd (cC (.int (1))) (cBin opMod (cApp bInt2 (cArgs [cBin getItemP (cVar 1) (cC (.int (122)))])) (cC (.int (5))))])) (.name 4)) (
 sSeq (sAsg (cCall 3 (cl ("_law_hellos" : Str)) [] (cArgs [cVar 1, cC (.int (123)), cBin opAdd (cC (.int (1))) (cBin opMod (cApp bInt2 (cArgs [cBin getItemP (cVar 1) (cC (.int (163)))])) (cC (.int (4))))])) (.name 5)) (
 sSeq (sAsg (cBin opAdd (cC (.int (1))) (cBin opMod (cApp bInt2 (cArgs [cBin getItemP (cVar 1) (cC (.int (164)))])) (cC (.int (16))))) (.name 6)) (
 sSeq (sIf (cTest (cBin (opEqB false) (cBin opMod (cBin getItemP (cVar 1) (cBin opAdd (cC (.int (165))) (cC (.int (28))))) (cC (.int (6)))) (cC (.int (2))))) (sSeq (sAsg (cBin opAdd (cC (.int (5))) (cBin opMod (cApp bInt2 (cArgs [cBin getItemP (cVar 1) (cC (.int (164)))])) (cC (.int (12))))) (.name 6)) (
   sNext)) (sNext)) (
 sSeq (sAsg (cCall 3 (cl ("_law_wide_edition" : Str)) [] (cArgs [cVar 1, cC (.int (165)), cVar 6])) (.name 7)) (
 sSeq (sAsg (cCall 1 (cl ("_law_text" : Str)) [] (cArgs [cCall 1 (cl ("_law_window_rows" : Str)) [] (cArgs [cVar 4])])) (.name 8)) (
 sSeq (sIf (cOrs [cNotT (cTruth (cCall 2 (cl ("_law_like" : Str)) [] (cArgs [cCall 2 (cl ("read_window" : Str)) [] (cArgs [cVar 2, cVar 8]), cVar 4]))), cNotT (cTruth (cCall 2 (cl ("_law_like" : Str)) [] (cArgs [cCall 1 (cl ("window_text" : Str)) [] (cArgs [cVar 4]), cVar 8])))]) (sSeq (sRet (cC (.bl false))) (
   sNext)) (sNext)) (
 sSeq (sAsg (cCall 1 (cl ("_law_text" : Str)) [] (cArgs [cCall 1 (cl ("_law_hello_rows" : Str)) [] (cArgs [cVar 5])])) (.name 8)) (
 sSeq (sIf (cOrs [cNotT (cTruth (cCall 2 (cl ("_law_like" : Str)) [] (cArgs [cCall 2 (cl ("read_hellos" : Str)) [] (cArgs [cVar 3, cVar 8]), cVar 5]))), cNotT (cTruth (cCall 2 (cl ("_law_like" : Str)) [] (cArgs [cCall 1 (cl ("hello_text" : Str)) [] (cArgs [cVar 5]), cVar 8])))]) (sSeq (sRet (cC (.bl false))) (
   sNext)) (sNext)) (
 sSeq (sAsg (cCall 1 (cl ("_law_text" : Str)) [] (cArgs [cCall 1 (cl ("_law_edition_rows" : Str)) [] (cArgs [cVar 7])])) (.name 8)) (
 sSeq (sRet (cAndsV [cCall 2 (cl ("_law_like" : Str)) [] (cArgs [cCall 1 (cl ("read_edition" : Str)) [] (cArgs [cVar 8]), cVar 7]), cCall 2 (cl ("_law_like" : Str)) [] (cArgs [cCall 1 (cl ("edition_text" : Str)) [] (cArgs [cVar 7]), cVar 8])])) (
 sNext))))))))))))))
/-- 3 names, 2 of them asked -/
def b_law_like (ar : Ar) (cl : Cl) : Sm :=
 sSeq (sIf (cTest (cBin (opIsN false) (cVar 1) (cC (.non)))) (sSeq (sRet (cBin (opIsN false) (cVar 0) (cC (.non)))) (
   sNext)) (sNext)) (
 sSeq (sIf (cTruth (cIsi (cVar 1) "bool")) (sSeq (sRet (cAndsV [cIsi (cVar 0) "bool", cBin (opEqB false) (cVar 0) (cVar 1)])) (
   sNext)) (sNext)) (
 sSeq (sIf (cTruth (cIsi (cVar 1) "tuple")) (sSeq (sIf (cOrs [cNotT (cTruth (cIsi (cVar 0) "tuple")), cTest (cBin (opEqB true) (cApp bLen (cArgs [cVar 0])) (cApp bLen (cArgs [cVar 1])))]) (sSeq (sRet (cC (.bl false))) (
     sNext)) (sNext)) (
   sSeq (sRet (cApp lAll (cCompN (wRange1 (cApp bLen (cArgs [cVar 1]))) (.name 2) (cTrue) (cCall 2 (cl ("_law_like" : Str)) [] (cArgs [cBin getItemP (cVar 0) (cVar 2), cBin getItemP (cVar 1) (cVar 2)])) [2]))) (
   sNext))) (sNext)) (
 sSeq (sIf (cTruth (cIsi (cVar 1) "str")) (sSeq (sRet (cAndsV [cIsi (cVar 0) "str", cBin (opEqB false) (cVar 0) (cVar 1)])) (
   sNext)) (sNext)) (
 sSeq (sRet (cAndsV [cCall 1 (cl ("_law_is_int" : Str)) [] (cArgs [cVar 0]), cBin (opEqB false) (cVar 0) (cVar 1)])) (
 sNext)))))
/-- 2 names, 1 of them asked -/
def b_rows_text (ar : Ar) (cl : Cl) : Sm :=
 sSeq (sRet (cMetL mJoinL (cC (.str ("" : Str))) (cCompN (wVal (cVar 0)) (.name 1) (cTrue) (cBin opAdd (cVar 1) (cC (.str ("\n" : Str)))) [1]))) (
 sNext)
/-- 1 names, 1 of them asked -/
def b_truth_text (ar : Ar) (cl : Cl) : Sm :=
 sSeq (sRet (cIf (cTruth (cVar 0)) (cC (.str ("yes" : Str))) (cC (.str ("no" : Str))))) (
 sNext)
/-- 7 names, 1 of them asked -/
def b_window_text (ar : Ar) (cl : Cl) : Sm :=
 sSeq (sAsg (cKeep (cLst (cArgs []))) (.name 1)) (
 sSeq (sFor (wVal (cVar 0)) (.name 2) (sSeq (sDrop (cMet "list" mAppend (cVar 1) (cArgs [cC (.str ("state" : Str))]))) (
   sSeq (sFor (wVal (cVar 2)) (.tup [.name 3, .name 4, .name 5, .name 6]) (sSeq (sDrop (cMet "list" mAppend (cVar 1) (cArgs [cJoin [cFmt (cCall 1 (cl ("truth_text" : Str)) [] (cArgs [cVar 3])), cC (.str (" " : Str)), cFmt (cCall 1 (cl ("truth_text" : Str)) [] (cArgs [cVar 4])), cC (.str (" " : Str)), cFmt (cVar 5), cC (.str (" " : Str)), cFmt (cVar 6)]]))) (
     sNext))) (
   sNext)))) (
 sSeq (sRet (cCall 1 (cl ("rows_text" : Str)) [] (cArgs [cVar 1]))) (
 sNext)))
/-- 5 names, 1 of them asked -/
def b_hello_text (ar : Ar) (cl : Cl) : Sm :=
 sSeq (sAsg (cKeep (cLst (cArgs []))) (.name 1)) (
 sSeq (sFor (wVal (cVar 0)) (.name 2) (sSeq (sDrop (cMet "list" mAppend (cVar 1) (cArgs [cC (.str ("state" : Str))]))) (
   sSeq (sDrop (cMet "list" mExtend (cVar 1) (cArgs [cKeep (cCompN (wVal (cVar 2)) (.tup [.name 3, .name 4]) (cTrue) (cJoin [cFmt (cVar 3), cC (.str (" " : Str)), cFmt (cVar 4)]) [3, 4])]))) (
   sNext)))) (
 sSeq (sRet (cCall 1 (cl ("rows_text" : Str)) [] (cArgs [cVar 1]))) (
 sNext)))
/-- 4 names, 1 of them asked -/
def b_prefix_text (ar : Ar) (cl : Cl) : Sm :=
 sSeq (sAsg (cVar 0) (.tup [.name 1, .name 2])) (
 sSeq (sIf (cTest (cBin (opEqB false) (cVar 1) (cC (.int (0))))) (sSeq (sRet (cC (.str ("-" : Str)))) (
   sNext)) (sNext)) (
 sSeq (sRet (cMetL mJoinL (cC (.str ("" : Str))) (cCompN (wRange1 (cVar 1)) (.name 3) (cTrue) (cApp bStr (cArgs [cBin opAnd (cBin opShr (cVar 2) (cBin opSub (cBin opSub (cVar 1) (cC (.int (1)))) (cVar 3))) (cC (.int (1)))])) [3]))) (
 sNext)))
/-- 7 names, 1 of them asked -/
def b_edition_text (ar : Ar) (cl : Cl) : Sm :=
 sSeq (sAsg (cVar 0) (.tup [.name 2, .name 3])) (
 sSeq (sAsg (cKeep (cLst (cArgs [cJoin [cC (.str ("bits " : Str)), cFmt (cVar 2)]]))) (.name 1)) (
 sSeq (sDrop (cMet "list" mExtend (cVar 1) (cArgs [cKeep (cCompN (wVal (cVar 3)) (.tup [.name 4, .name 5, .name 6]) (cTrue) (cJoin [cFmt (cCall 1 (cl ("prefix_text" : Str)) [] (cArgs [cVar 4])), cC (.str (" " : Str)), cFmt (cCall 1 (cl ("prefix_text" : Str)) [] (cArgs [cVar 5])), cC (.str (" " : Str)), cFmt (cVar 6)]) [4, 5, 6])]))) (
 sSeq (sRet (cCall 1 (cl ("rows_text" : Str)) [] (cArgs [cVar 1]))) (
 sNext))))
/-- 2 names, 1 of them asked -/
def b_text_rows (ar : Ar) (cl : Cl) : Sm :=
 sSeq (sAsg (cKeep (cSplit (cVar 0) (cC (.str ("\n" : Str))))) (.name 1)) (
 sSeq (sRet (cTup (cArgs [cSlice (cVar 1) none (some (cUn opNeg (cC (.int (1))))), cBin (opEqB false) (cBin getItemP (cVar 1) (cUn opNeg (cC (.int (1))))) (cC (.str ("" : Str)))]))) (
 sNext))
/-- 5 names, 3 of them asked -/
def b_read_number (ar : Ar) (cl : Cl) : Sm :=
 sSeq (sIf (cOrs [cTest (cBin (opEqB false) (cVar 0) (cC (.str ("" : Str)))), cTest (cBin opGt (cApp bLen (cArgs [cVar 0])) (cC (.int (10)))), cTruth (cSigns false (sgNot ("0123456789" : Str)) (cVar 0))]) (sSeq (sRet (cC (.non))) (
   sNext)) (sNext)) (
 sSeq (sIf (cAnds [cTest (cBin (opEqB false) (cBin getItemP (cVar 0) (cC (.int (0)))) (cC (.str ("0" : Str)))), cTest (cBin (opEqB true) (cVar 0) (cC (.str ("0" : Str))))]) (sSeq (sRet (cC (.non))) (
   sNext)) (sNext)) (
 sSeq (sAsg (cApp bInt2 (cArgs [cVar 0])) (.name 3)) (
 sSeq (sRet (cIf (cTest (cChain opLe opLe (cVar 1) (cVar 3) (cVar 2))) (cVar 3) (cC (.non)))) (
 sNext))))
/-- 12 names, 4 of them asked -/
def b_read_state_table (ar : Ar) (cl : Cl) : Sm :=
 sSeq (sAsg (cCall 1 (cl ("text_rows" : Str)) [] (cArgs [cVar 0])) (.tup [.name 5, .name 6])) (
 sSeq (sAsg (cKeep (cLst (cArgs []))) (.name 4)) (
 sSeq (sFor (wEnum (cVar 5)) (.tup [.name 7, .name 8]) (sSeq (sAsg (cBin opMod (cVar 7) (cBin opAdd (cVar 1) (cC (.int (1))))) (.name 9)) (
   sSeq (sIf (cTest (cBin (opEqB false) (cVar 9) (cC (.int (0))))) (sSeq (sIf (cOrs [cTest (cBin (opEqB true) (cVar 8) (cC (.str ("state" : Str)))), cTest (cBin (opEqB false) (cApp bLen (cArgs [cVar 4])) (cVar 2))]) (sSeq (sFail) (
       sNext)) (sNext)) (
     sSeq (sDrop (cMet "list" mAppend (cVar 4) (cArgs [cKeep (cLst (cArgs []))]))) (
     sNext))) (sSeq (sAsg (cCallA ar cl 3 (cArgs [cVar 8, cBin opSub (cVar 9) (cC (.int (1)))])) (.name 10)) (
     sSeq (sIf (cTest (cBin (opIsN false) (cVar 10) (cC (.non)))) (sSeq (sFail) (
       sNext)) (sNext)) (
     sSeq (sDrop (cMet "list" mAppend (cBin getItemP (cVar 4) (cUn opNeg (cC (.int (1))))) (cArgs [cVar 10]))) (
     sNext))))) (
   sNext)))) (
 sSeq (sDrop (cCall 4 (cl ("check_whole" : Str)) [] (cArgs [cVar 4, cApp bLen (cArgs [cVar 5]), cVar 6, cVar 1]))) (
 sSeq (sRet (cApp lTuple (cCompN (wVal (cVar 4)) (.name 11) (cTrue) (cApp bTuple (cArgs [cVar 11])) [11]))) (
 sNext)))))
/-- 6 names, 4 of them asked -/
def b_check_whole (ar : Ar) (cl : Cl) : Sm :=
 sSeq (sIf (cOrs [cNotT (cTruth (cVar 2)), cNotT (cTruth (cVar 0)), cTest (cBin opLt (cApp bLen (cArgs [cBin getItemP (cVar 0) (cUn opNeg (cC (.int (1))))])) (cVar 3))]) (sSeq (sFail) (
   sNext)) (sNext)) (
 sSeq (sIf (cTruth (cGx2 true (wVal (cVar 0)) (.name 4) (cTrue) (wVal (cVar 4)) (.name 5) (cTrue) (cBin opGe (cBin getItemP (cVar 5) (cUn opNeg (cC (.int (1))))) (cApp bLen (cArgs [cVar 0]))) [4, 5] [5])) (sSeq (sFail) (
   sNext)) (sNext)) (
 sNext))
/-- 4 names, 2 of them asked -/
def b_read_window_entry (ar : Ar) (cl : Cl) : Sm :=
 sSeq (sAsg (cKeep (cSplit (cVar 0) (cC (.str (" " : Str))))) (.name 2)) (
 sSeq (sIf (cOrs [cTest (cBin (opEqB true) (cApp bLen (cArgs [cVar 2])) (cC (.int (4)))), cTest (cBin (opInB true) (cBin getItemP (cVar 2) (cC (.int (0)))) (cTup (cArgs [cC (.str ("yes" : Str)), cC (.str ("no" : Str))]))), cTest (cBin (opInB true) (cBin getItemP (cVar 2) (cC (.int (1)))) (cTup (cArgs [cC (.str ("yes" : Str)), cC (.str ("no" : Str))]))), cTest (cBin (opInB true) (cBin getItemP (cVar 2) (cC (.int (2)))) (cBin getItemP (cC (.ctup [.ctup [.str ("none" : Str), .str ("move" : Str), .str ("bare" : Str), .str ("wipe" : Str)], .ctup [.str ("none" : Str), .str ("move" : Str), .str ("bare" : Str), .str ("wipe" : Str)], .ctup [.str ("none" : Str), .str ("move" : Str), .str ("bare" : Str), .str ("wipe" : Str)], .ctup [.str ("none" : Str), .str ("mark" : Str), .str ("wipe" : Str)], .ctup [.str ("none" : Str), .str ("wipe" : Str)], .ctup [.str ("none" : Str), .str ("wipe" : Str)]])) (cVar 1)))]) (sSeq (sRet (cC (.non))) (
   sNext)) (sNext)) (
 sSeq (sAsg (cCall 3 (cl ("read_number" : Str)) [] (cArgs [cBin getItemP (cVar 2) (cC (.int (3))), cC (.int (0)), cC (.int (4))])) (.name 3)) (
 sSeq (sIf (cTest (cBin (opIsN false) (cVar 3) (cC (.non)))) (sSeq (sRet (cC (.non))) (
   sNext)) (sNext)) (
 sSeq (sRet (cTup (cArgs [cBin (opEqB false) (cBin getItemP (cVar 2) (cC (.int (0)))) (cC (.str ("yes" : Str))), cBin (opEqB false) (cBin getItemP (cVar 2) (cC (.int (1)))) (cC (.str ("yes" : Str))), cBin getItemP (cVar 2) (cC (.int (2))), cVar 3]))) (
 sNext)))))
/-- 2 names, 2 of them asked -/
def b_read_window (ar : Ar) (cl : Cl) : Sm :=
 sSeq (sRet (cCall 4 (cl ("read_state_table" : Str)) [] (cArgs [cVar 1, cC (.int (6)), cC (.int (5)), cC (.fn ("read_window_entry" : Str))]))) (
 sNext)
/-- 4 names, 2 of them asked -/
def b_read_hello_entry (ar : Ar) (cl : Cl) : Sm :=
 sSeq (sAsg (cKeep (cSplit (cVar 0) (cC (.str (" " : Str))))) (.name 2)) (
 sSeq (sIf (cOrs [cTest (cBin (opEqB true) (cApp bLen (cArgs [cVar 2])) (cC (.int (2)))), cTest (cBin (opInB true) (cBin getItemP (cVar 2) (cC (.int (0)))) (cBin getItemP (cC (.ctup [.ctup [.str ("ignore" : Str), .str ("open" : Str)], .ctup [.str ("ignore" : Str), .str ("anew" : Str), .str ("front" : Str), .str ("drop" : Str)], .ctup [.str ("ignore" : Str), .str ("open" : Str)], .ctup [.str ("ignore" : Str), .str ("anew" : Str), .str ("front" : Str), .str ("drop" : Str)], .ctup [.str ("ignore" : Str), .str ("open" : Str)]])) (cVar 1)))]) (sSeq (sRet (cC (.non))) (
   sNext)) (sNext)) (
 sSeq (sAsg (cCall 3 (cl ("read_number" : Str)) [] (cArgs [cBin getItemP (cVar 2) (cC (.int (1))), cC (.int (0)), cC (.int (3))])) (.name 3)) (
 sSeq (sIf (cTest (cBin (opIsN false) (cVar 3) (cC (.non)))) (sSeq (sRet (cC (.non))) (
   sNext)) (sNext)) (
 sSeq (sRet (cTup (cArgs [cBin getItemP (cVar 2) (cC (.int (0))), cVar 3]))) (
 sNext)))))
/-- 2 names, 2 of them asked -/
def b_read_hellos (ar : Ar) (cl : Cl) : Sm :=
 sSeq (sRet (cCall 4 (cl ("read_state_table" : Str)) [] (cArgs [cVar 1, cC (.int (5)), cC (.int (4)), cC (.fn ("read_hello_entry" : Str))]))) (
 sNext)
/-- 3 names, 2 of them asked -/
def b_read_prefix (ar : Ar) (cl : Cl) : Sm :=
 sSeq (sIf (cTest (cBin (opEqB false) (cVar 0) (cC (.str ("-" : Str))))) (sSeq (sRet (cTup (cArgs [cC (.int (0)), cC (.int (0))]))) (
   sNext)) (sNext)) (
 sSeq (sIf (cOrs [cTest (cBin (opEqB false) (cVar 0) (cC (.str ("" : Str)))), cTest (cBin opGt (cApp bLen (cArgs [cVar 0])) (cVar 1)), cTruth (cSigns false (sgNot ("01" : Str)) (cVar 0))]) (sSeq (sRet (cC (.non))) (
   sNext)) (sNext)) (
 sSeq (sRet (cTup (cArgs [cApp bLen (cArgs [cVar 0]), cApp bInt2 (cArgs [cVar 0, cC (.int (2))])]))) (
 sNext)))
/-- 6 names, 2 of them asked -/
def b_read_rule (ar : Ar) (cl : Cl) : Sm :=
 sSeq (sAsg (cKeep (cSplit (cVar 0) (cC (.str (" " : Str))))) (.name 2)) (
 sSeq (sIf (cTest (cBin (opEqB true) (cApp bLen (cArgs [cVar 2])) (cC (.int (3))))) (sSeq (sRet (cC (.non))) (
   sNext)) (sNext)) (
 sSeq (sAsg (cCall 2 (cl ("read_prefix" : Str)) [] (cArgs [cBin getItemP (cVar 2) (cC (.int (0))), cVar 1])) (.name 3)) (
 sSeq (sAsg (cCall 2 (cl ("read_prefix" : Str)) [] (cArgs [cBin getItemP (cVar 2) (cC (.int (1))), cVar 1])) (.name 4)) (
 sSeq (sAsg (cCall 3 (cl ("read_number" : Str)) [] (cArgs [cBin getItemP (cVar 2) (cC (.int (2))), cC (.int (0)), cC (.int (9))])) (.name 5)) (
 sSeq (sIf (cOrs [cTest (cBin (opIsN false) (cVar 3) (cC (.non))), cTest (cBin (opIsN false) (cVar 4) (cC (.non))), cTest (cBin (opIsN false) (cVar 5) (cC (.non)))]) (sSeq (sRet (cC (.non))) (
   sNext)) (sNext)) (
 sSeq (sRet (cTup (cArgs [cVar 3, cVar 4, cVar 5]))) (
 sNext)))))))
/-- 2 names, 1 of them asked -/
def b_read_bits (ar : Ar) (cl : Cl) : Sm :=
 sSeq (sAsg (cKeep (cSplit (cVar 0) (cC (.str (" " : Str))))) (.name 1)) (
 sSeq (sIf (cOrs [cTest (cBin (opEqB true) (cApp bLen (cArgs [cVar 1])) (cC (.int (2)))), cTest (cBin (opEqB true) (cBin getItemP (cVar 1) (cC (.int (0)))) (cC (.str ("bits" : Str))))]) (sSeq (sRet (cC (.non))) (
   sNext)) (sNext)) (
 sSeq (sRet (cCall 3 (cl ("read_number" : Str)) [] (cArgs [cBin getItemP (cVar 1) (cC (.int (1))), cC (.int (1)), cC (.int (16))]))) (
 sNext)))
/-- 8 names, 1 of them asked -/
def b_read_edition (ar : Ar) (cl : Cl) : Sm :=
 sSeq (sAsg (cCall 1 (cl ("text_rows" : Str)) [] (cArgs [cVar 0])) (.tup [.name 3, .name 4])) (
 sSeq (sIf (cNotT (cTruth (cVar 3))) (sSeq (sFail) (
   sNext)) (sNext)) (
 sSeq (sAsg (cCall 1 (cl ("read_bits" : Str)) [] (cArgs [cBin getItemP (cVar 3) (cC (.int (0)))])) (.name 1)) (
 sSeq (sIf (cTest (cBin (opIsN false) (cVar 1) (cC (.non)))) (sSeq (sFail) (
   sNext)) (sNext)) (
 sSeq (sAsg (cKeep (cLst (cArgs []))) (.name 2)) (
 sSeq (sFor (wEnum (cSlice (cVar 3) (some (cC (.int (1)))) none)) (.tup [.name 5, .name 6]) (sSeq (sAsg (cCall 2 (cl ("read_rule" : Str)) [] (cArgs [cVar 6, cVar 1])) (.name 7)) (
   sSeq (sIf (cOrs [cTest (cBin (opIsN false) (cVar 7) (cC (.non))), cTest (cBin (opEqB false) (cApp bLen (cArgs [cVar 2])) (cC (.int (24))))]) (sSeq (sFail) (
     sNext)) (sNext)) (
   sSeq (sIf (cAnds [cTruth (cVar 2), cOrs [cTest (cBin opLe (cVar 7) (cBin getItemP (cVar 2) (cUn opNeg (cC (.int (1)))))), cTest (cBin (opEqB false) (cSlice (cVar 7) none (some (cC (.int (2))))) (cSlice (cBin getItemP (cVar 2) (cUn opNeg (cC (.int (1))))) none (some (cC (.int (2))))))]]) (sSeq (sFail) (
     sNext)) (sNext)) (
   sSeq (sDrop (cMet "list" mAppend (cVar 2) (cArgs [cVar 7]))) (
   sNext)))))) (
 sSeq (sIf (cNotT (cTruth (cVar 4))) (sSeq (sFail) (
   sNext)) (sNext)) (
 sSeq (sRet (cTup (cArgs [cVar 1, cApp bTuple (cArgs [cVar 2])]))) (
 sNext))))))))
/-- 1 names, 1 of them asked -/
def b_law_yes (ar : Ar) (cl : Cl) : Sm :=
 sSeq (sIf (cTruth (cVar 0)) (sSeq (sRet (cC (.str ("yes" : Str)))) (
   sNext)) (sNext)) (
 sSeq (sRet (cC (.str ("no" : Str)))) (
 sNext))
/-- 2 names, 1 of them asked -/
def b_law_text (ar : Ar) (cl : Cl) : Sm :=
 sSeq (sRet (cMetL mJoinL (cC (.str ("" : Str))) (cCompN (wVal (cVar 0)) (.name 1) (cTrue) (cBin opAdd (cVar 1) (cC (.str ("\n" : Str)))) [1]))) (
 sNext)
/-- 7 names, 1 of them asked -/
def b_law_window_rows (ar : Ar) (cl : Cl) : Sm :=
 sSeq (sAsg (cKeep (cLst (cArgs []))) (.name 1)) (
 sSeq (sFor (wVal (cVar 0)) (.name 2) (sSeq (sDrop (cMet "list" mAppend (cVar 1) (cArgs [cC (.str ("state" : Str))]))) (
   sSeq (sFor (wVal (cVar 2)) (.tup [.name 3, .name 4, .name 5, .name 6]) (sSeq (sDrop (cMet "list" mAppend (cVar 1) (cArgs [cMetL mJoinL (cC (.str (" " : Str))) (cLst (cArgs [cCall 1 (cl ("_law_yes" : Str)) [] (cArgs [cVar 3]), cCall 1 (cl ("_law_yes" : Str)) [] (cArgs [cVar 4]), cVar 5, cApp bStr (cArgs [cVar 6])]))]))) (
     sNext))) (
   sNext)))) (
 sSeq (sRet (cVar 1)) (
 sNext)))
/-- 4 names, 1 of them asked -/
def b_law_hello_rows (ar : Ar) (cl : Cl) : Sm :=
 sSeq (sAsg (cKeep (cLst (cArgs []))) (.name 1)) (
 sSeq (sFor (wVal (cVar 0)) (.name 2) (sSeq (sDrop (cMet "list" mAppend (cVar 1) (cArgs [cC (.str ("state" : Str))]))) (
   sSeq (sDrop (cMet "list" mExtend (cVar 1) (cArgs [cKeep (cCompN (wVal (cVar 2)) (.name 3) (cTrue) (cBin opAdd (cBin opAdd (cBin getItemP (cVar 3) (cC (.int (0)))) (cC (.str (" " : Str)))) (cApp bStr (cArgs [cBin getItemP (cVar 3) (cC (.int (1)))]))) [3])]))) (
   sNext)))) (
 sSeq (sRet (cVar 1)) (
 sNext)))
/-- 4 names, 1 of them asked -/
def b_law_prefix_word (ar : Ar) (cl : Cl) : Sm :=
 sSeq (sAsg (cVar 0) (.tup [.name 1, .name 2])) (
 sSeq (sIf (cTest (cBin (opEqB false) (cVar 1) (cC (.int (0))))) (sSeq (sRet (cC (.str ("-" : Str)))) (
   sNext)) (sNext)) (
 sSeq (sRet (cMetL mJoinL (cC (.str ("" : Str))) (cCompN (wRange1 (cVar 1)) (.name 3) (cTrue) (cApp bStr (cArgs [cBin opMod (cApp bInt2 (cArgs [cBin opFdiv (cVar 2) (cCall 1 (cl ("_law_power" : Str)) [] (cArgs [cBin opSub (cBin opSub (cVar 1) (cC (.int (1)))) (cVar 3)]))])) (cC (.int (2)))])) [3]))) (
 sNext)))
/-- 5 names, 1 of them asked -/
def b_law_edition_rows (ar : Ar) (cl : Cl) : Sm :=
 sSeq (sAsg (cKeep (cLst (cArgs [cBin opAdd (cC (.str ("bits " : Str))) (cApp bStr (cArgs [cBin getItemP (cVar 0) (cC (.int (0)))]))]))) (.name 1)) (
 sSeq (sFor (wVal (cBin getItemP (cVar 0) (cC (.int (1))))) (.tup [.name 2, .name 3, .name 4]) (sSeq (sDrop (cMet "list" mAppend (cVar 1) (cArgs [cMetL mJoinL (cC (.str (" " : Str))) (cLst (cArgs [cCall 1 (cl ("_law_prefix_word" : Str)) [] (cArgs [cVar 2]), cCall 1 (cl ("_law_prefix_word" : Str)) [] (cArgs [cVar 3]), cApp bStr (cArgs [cVar 4])]))]))) (
   sNext))) (
 sSeq (sRet (cVar 1)) (
 sNext)))
/-- 7 names, 3 of them asked -/
def b_law_wide_edition_k91 (ar : Ar) (cl : Cl) : Sm :=
 sSeq (sAsg (cCall 5 (cl ("_law_edition" : Str)) [] (cArgs [cVar 0, cVar 1, cVar 2, cC (.int (9)), cC (.int (9))])) (.name 3)) (
 sSeq (sIf (cTest (cBin (opEqB true) (cBin opMod (cBin getItemP (cVar 0) (cBin opAdd (cVar 1) (cC (.int (28))))) (cC (.int (6)))) (cC (.int (2))))) (sSeq (sRet (cVar 3)) (
   sNext)) (sNext)) (
 sSeq (sAsg (cKeep (cLst (cArgs []))) (.name 4)) (
 sSeq (sFor (wRange1 (cC (.int (24)))) (.name 5) (sSeq (sAsg (cApp bInt2 (cArgs [cBin getItemP (cVar 0) (cBin opAdd (cBin opAdd (cVar 1) (cC (.int (1)))) (cVar 5))])) (.name 6)) (
   sSeq (sDrop (cMet "list" mAppend (cVar 4) (cArgs [cTup (cArgs [cTup (cArgs [cVar 2, cVar 5]), cCall 2 (cl ("_law_prefix" : Str)) [] (cArgs [cVar 6, cVar 2]), cBin opMod (cBin opFdiv (cVar 6) (cC (.int (17)))) (cC (.int (10)))])]))) (
   sNext)))) (
 sSeq (sRet (cTup (cArgs [cVar 2, cApp bTuple (cArgs [cVar 4])]))) (
 sNext)))))
end Sh

/-! PyW1: what a run must end with; defs by name; loops. -/
namespace PyI
open PySem Sh
/-- the run ends well, and so -/
inductive Res.P {α : Type} (r : Res α) (Q : α → Store → Prop) : Prop
  | of (a : α) (st : Store) : r = .ok a st → Q a st → Res.P r Q
@[simp] theorem P_ok {α : Type} {a : α} {st : Store} {Q : α → Store → Prop} : (Res.ok a st).P Q = Q a st := propext ⟨fun ⟨_, _, e, h⟩ => by cases e; exact h, fun h => ⟨a, st, rfl, h⟩⟩
theorem P_of {α : Type} {r : Res α} {a : α} {st : Store} {Q : α → Store → Prop} (e : r = .ok a st) (h : Q a st) : r.P Q := ⟨a, st, e, h⟩
theorem P_get {α : Type} {r : Res α} {Q : α → Store → Prop} (h : r.P Q) : ∃ a st, r = .ok a st ∧ Q a st := by
  obtain ⟨a, st, e, h⟩ := h
  exact ⟨a, st, e, h⟩
theorem P_mono {α : Type} {r : Res α} {Q Q' : α → Store → Prop} (h : r.P Q) (q : ∀ a st, Q a st → Q' a st) : r.P Q' := by
  obtain ⟨a, st, e, h⟩ := P_get h
  exact P_of e (q a st h)
/-- .. the end of a statement -/
abbrev QF := Fl → Store → Prop
theorem P_seq {a b : Sm} {env : EnvP} {st : Store} {Q : QF} (h : (a env st).P fun fl st' => match fl with
    | .nx e => (b e st').P Q
    | fl => Q fl st') : (sSeq a b env st).P Q := by
  obtain ⟨fl, st', e, h⟩ := P_get h
  rw [run_seq, e]
  cases fl <;> first | exact h | exact P_of rfl h
theorem P_asg {f : Dn} {i : Nat} {rest : Sm} {env : EnvP} {st st' : Store} {d : PV} {Q : QF} (h : f env st = .ok d st') (k : (rest (env.set i (some d)) st').P Q) : (sSeq (sAsg f (.name i)) rest env st).P Q := by
  rw [run_seq, run_asg, h]
  exact k
theorem P_asgT {f : Dn} {ts : List Tg} {rest : Sm} {env env' : EnvP} {st st' : Store} {d : PV} {Q : QF} (h : f env st = .ok d st') (ht : setT (.tup ts) d env st' = .ok env' st') (k : (rest env' st').P Q) : (sSeq (sAsg f (.tup ts)) rest env st).P Q := by
  rw [run_seq, run_asgT, h]
  simp only [ht]
  exact k
theorem P_drop {f : Dn} {rest : Sm} {env : EnvP} {st st' : Store} {d : PV} {Q : QF} (h : f env st = .ok d st') (k : (rest env st').P Q) : (sSeq (sDrop f) rest env st).P Q := by
  rw [run_seq, run_drop, h]
  exact k
theorem P_ret {f : Dn} {rest : Sm} {env : EnvP} {st st' : Store} {d : PV} {Q : QF} (h : f env st = .ok d st') (k : Q (.ret d) st') : (sSeq (sRet f) rest env st).P Q := by
  rw [run_seq, run_ret, h]
  exact P_of rfl k
theorem P_ift {c : Tn} {a b rest : Sm} {env : EnvP} {st st' : Store} {Q : QF} (h : c env st = .ok true st') (k : (a env st').P fun fl s => match fl with
    | .nx e => (rest e s).P Q
    | fl => Q fl s) : (sSeq (sIf c a b) rest env st).P Q := by
  refine P_seq ?_
  rw [run_if, h]
  exact k
theorem P_iff {c : Tn} {a b rest : Sm} {env : EnvP} {st st' : Store} {Q : QF} (h : c env st = .ok false st') (k : (b env st').P fun fl s => match fl with
    | .nx e => (rest e s).P Q
    | fl => Q fl s) : (sSeq (sIf c a b) rest env st).P Q := by
  refine P_seq ?_
  rw [run_if, h]
  exact k
/-- the test fails, and nothing stands else -/
theorem P_if0 {c : Tn} {a rest : Sm} {env : EnvP} {st st' : Store} {Q : QF} (h : c env st = .ok false st') (k : (rest env st').P Q) : (sSeq (sIf c a sNext) rest env st).P Q := P_iff h (P_of rfl k)
theorem P_next {env : EnvP} {st : Store} {Q : QF} (h : Q (.nx env) st) : (sNext env st).P Q := P_of rfl h
theorem P_new {i : Nat} {rest : Sm} {env : EnvP} {st : Store} {Q : QF} (k : (rest (env.set i (some (.obj st.length))) (st ++ [.lst []])).P Q) : (sSeq (sAsg (cKeep (cLst (cArgs []))) (.name i)) rest env st).P Q :=
  P_asg (keep_ok (lst_ok args_nil_ok (Nat.zero_le _))) k
/-! ### defs -/
/-- a row's defs: what each gives, how many things it asks -/
structure Prg where
  den : Nat → Cl
  ar : Ar
instance : CoeFun Prg (fun _ => Nat → Cl) := ⟨Prg.den⟩
class Fn (D : Prg) (f : Str) (m N : outParam Nat) (b : outParam (Ar → Cl → Sm)) : Prop where
  run : ∀ n xs, D (n + 1) f xs = callP (b D.ar (D n) (startP N xs))
  ari : D.ar f = some (m, [])
section
variable {D : Prg} {f : Str} {m N : Nat} {b : Ar → Cl → Sm} {n : Nat} {xs : List PV} {st st' : Store} {d : PV}
/-- it gives d and leaves the store as it was -/
theorem fn_pure [F : Fn D f m N b] (env : EnvP) (he : startP N xs = env) (hb : d.bound st.length = true) (h : (b D.ar (D n) env st).P fun fl s => fl = .ret d ∧ ∃ t, s = st ++ t) : D (n + 1) f xs st = .ok d st := by
  subst he
  obtain ⟨fl, s, e, rfl, t, rfl⟩ := P_get h
  rw [F.run, call_ret e, gc_app hb]
theorem fn_pureN [F : Fn D f m N b] (env : EnvP) (he : startP N xs = env) (h : (b D.ar (D n) env st).P fun fl s => ((∃ e, fl = .nx e) ∨ fl = .ret .non) ∧ ∃ t, s = st ++ t) : D (n + 1) f xs st = .ok .non st := by
  subst he
  obtain ⟨fl, s, e, h, t, rfl⟩ := P_get h
  rcases h with ⟨e', rfl⟩ | rfl
  · rw [F.run, call_nx e, gc_app rfl]
  · rw [F.run, call_ret e, gc_app rfl]
/-- it gives d and a store that holds what stood -/
theorem fn_grow [F : Fn D f m N b] (env : EnvP) (he : startP N xs = env) (hb : d.bound st.length = false) (h : (b D.ar (D n) env st).P fun fl s => fl = .ret d ∧ s = st') : D (n + 1) f xs st = .ok d st' := by
  subst he
  obtain ⟨fl, s, e, rfl, rfl⟩ := P_get h
  rw [F.run, call_ret e]
  unfold gcP
  rw [if_neg fun z => by rw [hb] at z; exact Bool.false_ne_true z.1]
theorem fn_P [F : Fn D f m N b] {Q : PV → Store → Prop} (env : EnvP) (he : startP N xs = env) (h : (b D.ar (D n) env st).P fun fl s => ∃ d, (fl = .ret d ∨ ((∃ e, fl = .nx e) ∧ d = .non)) ∧ Q d (gcP st d s)) : (D (n + 1) f xs st).P Q := by
  subst he
  obtain ⟨fl, s, e, d, h1, h2⟩ := P_get h
  rcases h1 with rfl | ⟨⟨e', rfl⟩, rfl⟩
  · rw [F.run, call_ret e]; exact P_of rfl h2
  · rw [F.run, call_nx e]; exact P_of rfl h2
end
/-! ### loops -/
theorem P_for0 {t : Tg} {body : Sm} {gd : Guard} {env : EnvP} {st : Store} {Q : QF} (h : Q (.nx env) st) : (forLoop t body gd [] env st).P Q := P_of rfl h
theorem P_for1 {t : Tg} {body : Sm} {gd : Guard} {x : PV} {xs : List PV} {env env1 : EnvP} {st : Store} {Q : QF} (ht : setT t x env st = .ok env1 st) (h : (body env1 st).P fun fl s => match fl with
    | .nx e => gdOk gd s = true ∧ (forLoop t body gd xs e s).P Q
    | .cont e => gdOk gd s = true ∧ (forLoop t body gd xs e s).P Q
    | .brk e => Q (.nx e) s
    | .ret d => Q (.ret d) s) : (forLoop t body gd (x :: xs) env st).P Q := by
  unfold forLoop
  rw [bind_ok ht]
  obtain ⟨fl, s, e, h⟩ := P_get h
  rw [bind_ok e]
  cases fl with
  | nx e' =>
    show ((do chk gd; forLoop t body gd xs e' : M Fl) s).P Q
    rw [bind_ok (show chk gd s = .ok () s by unfold chk; rw [if_pos h.1])]
    exact h.2
  | cont e' =>
    show ((do chk gd; forLoop t body gd xs e' : M Fl) s).P Q
    rw [bind_ok (show chk gd s = .ok () s by unfold chk; rw [if_pos h.1])]
    exact h.2
  | brk e' => exact P_of rfl h
  | ret d => exact P_of rfl h
/-- a loop that goes through all of l: s is what is carried -/
theorem P_for {α σ : Type} {t : Tg} {body : Sm} {gd : Guard} (g : α → PV) (f : σ → α → σ) (I : σ → EnvP → Store → Prop) : ∀ (l : List α) (s : σ) (env : EnvP) (st : Store) {Q : QF}, I s env st →
    (∀ x ∈ l, ∀ s env st, I s env st → ∃ env1, setT t (g x) env st = .ok env1 st ∧ (body env1 st).P fun fl st' => ∃ e, (fl = .nx e ∨ fl = .cont e) ∧ gdOk gd st' = true ∧ I (f s x) e st') →
    (∀ env st, I (l.foldl f s) env st → Q (.nx env) st) → (forLoop t body gd (l.map g) env st).P Q
  | [], s, env, st, Q, h, _, q => P_of rfl (q env st h)
  | x :: l, s, env, st, Q, h, hb, q => by
    obtain ⟨env1, h1, h2⟩ := hb x List.mem_cons_self s env st h
    refine P_for1 h1 (P_mono h2 fun fl st' ⟨e, h3, h4, h5⟩ => ?_)
    have go := P_for g f I l (f s x) e st' h5 (fun y hy => hb y (List.mem_cons_of_mem _ hy)) q
    rcases h3 with rfl | rfl <;> exact ⟨h4, go⟩
/-- .. the invariant speaks of what is gone through -/
theorem P_forL {α : Type} {t : Tg} {body : Sm} {gd : Guard} (g : α → PV) (I : List α → EnvP → Store → Prop) (l : List α) {env : EnvP} {st : Store} {Q : QF} (h : I [] env st)
    (hb : ∀ (pre : List α) (x : α) (post : List α) env st, l = pre ++ x :: post → I pre env st → ∃ env1, setT t (g x) env st = .ok env1 st ∧ (body env1 st).P fun fl st' => ∃ e, (fl = .nx e ∨ fl = .cont e) ∧ gdOk gd st' = true ∧ I (pre ++ [x]) e st')
    (q : ∀ env st, I l env st → Q (.nx env) st) : (forLoop t body gd (l.map g) env st).P Q := by
  have key : ∀ (post pre : List α) (env : EnvP) (st : Store), l = pre ++ post → I pre env st → (forLoop t body gd (post.map g) env st).P Q := by
    intro post
    induction post with
    | nil => intro pre env st e h; rw [List.append_nil] at e; subst e; exact P_of rfl (q env st h)
    | cons x post ih =>
      intro pre env st e h
      obtain ⟨env1, h1, h2⟩ := hb pre x post env st e h
      refine P_for1 h1 (P_mono h2 fun fl st' ⟨e', h3, h4, h5⟩ => ?_)
      have go := ih (pre ++ [x]) e' st' (by rw [e]; simp) h5
      rcases h3 with rfl | rfl <;> exact ⟨h4, go⟩
  exact key l [] env st rfl h

@[simp] theorem gd_none {st : Store} : gdOk [] st = true := rfl
theorem P_nx {r : Res Fl} {gd : Guard} {e : EnvP} {s : Store} {I : EnvP → Store → Prop} (h : r = .ok (.nx e) s) (hg : gdOk gd s = true) (hi : I e s) : r.P fun fl st' => ∃ e, (fl = .nx e ∨ fl = .cont e) ∧ gdOk gd st' = true ∧ I e st' := P_of h ⟨e, .inl rfl, hg, hi⟩
theorem P_sFor {wi : Wn} {t : Tg} {body rest : Sm} {env : EnvP} {st st1 : Store} {p : List PV × Guard} {Q : QF} (hw : wi env st = .ok p st1) (h : (forLoop t body p.2 p.1 env st1).P fun fl s => match fl with
    | .nx e => (rest e s).P Q
    | fl => Q fl s) : (sSeq (sFor wi t body) rest env st).P Q := by
  refine P_seq ?_
  unfold sFor
  rw [bind_ok hw]
  exact h
/-! ### more of the combinators -/
variable {env : EnvP} {st : Store}
@[simp] theorem run_fmt {f : Dn} : cFmt f env st = (match f env st with
  | .ok (.str y) s => if y.length ≤ sizeLine then .ok (.str y) s else .no
  | .ok (.int i) s => if i.natAbs.log2 < 1920 then .ok (.str (toString i)) s else .no
  | .ok _ _ => .no
  | .ex e s => .ex e s
  | .no => .no) := by
  show ((f env >>= _) st) = _
  rw [bind_run]
  cases f env st with
  | ok d s =>
    cases d with
    | str y => show (if _ then _ else _ : M PV) s = _; simp only; split <;> rfl
    | int i => show (if _ then _ else _ : M PV) s = _; simp only; split <;> rfl
    | _ => rfl
  | ex => rfl
  | no => rfl
@[simp] theorem run_js0 {acc : Str} : jsP [] acc env st = .ok acc st := rfl
@[simp] theorem run_js {f : Dn} {fs : List Dn} {acc : Str} : jsP (f :: fs) acc env st = (match f env st with
  | .ok (.str y) s => if (acc ++ y).length ≤ sizeLine then jsP fs (acc ++ y) env s else .no
  | .ok _ _ => .no
  | .ex e s => .ex e s
  | .no => .no) := by
  show ((f env >>= _) st) = _
  rw [bind_run]
  cases f env st with
  | ok d s =>
    cases d with
    | str y => show (if _ then _ else _ : M Str) s = _; simp only; split <;> rfl
    | _ => rfl
  | ex => rfl
  | no => rfl
@[simp] theorem run_join {fs : List Dn} : cJoin fs env st = (match jsP fs Str.empty env st with
  | .ok out s => .ok (.str out) s
  | .ex e s => .ex e s
  | .no => .no) := by
  show ((jsP fs Str.empty env >>= _) st) = _
  rw [bind_run]
  cases jsP fs Str.empty env st <;> rfl
theorem run_int2_str {s : Str} {n : Int} (h : intText? s = some n) (hl : s.length ≤ 640) : bInt2 [.str s] st = .ok (.int n) st := run_int_str h hl
@[simp] theorem run_metL {F : PV → List PV → M PV} {fo : Dn} {fl : Ln} : cMetL F fo fl env st = (match fo env st with
  | .ok o s1 => if isStr o = true then (match fl env s1 with
    | .ok xs s2 => F o xs s2
    | .ex e s2 => .ex e s2
    | .no => .no) else .no
  | .ex e s1 => .ex e s1
  | .no => .no) := by
  show ((fo env >>= _) st) = _
  rw [bind_run]
  cases fo env st with
  | ok o s1 =>
    simp only
    split
    · show ((fl env >>= _) s1) = _
      rw [bind_run]
      cases fl env s1 <;> rfl
    · rfl
  | ex => rfl
  | no => rfl
@[simp] theorem isStr_str {s : Str} : isStr (.str s) = true := rfl
@[simp] theorem run_met {T : String} {F : PV → List PV → M PV} {fo : Dn} {fs : Ln} : cMet T F fo fs env st = (match fo env st with
  | .ok o s1 => if tyOk T s1 o = true then (match fs env s1 with
    | .ok xs s2 => F o xs s2
    | .ex e s2 => .ex e s2
    | .no => .no) else .no
  | .ex e s1 => .ex e s1
  | .no => .no) := by
  show ((fo env >>= _) st) = _
  rw [bind_run]
  cases fo env st with
  | ok o s1 =>
    simp only
    split
    · show ((fs env >>= _) s1) = _
      rw [bind_run]
      cases fs env s1 <;> rfl
    · rfl
  | ex => rfl
  | no => rfl
theorem tyOk_lst {n : Nat} {xs : List PV} (h : st[n]? = some (.lst xs)) : tyOk "list" st (.obj n) = true := by simp [tyOk, h]
section
variable {st1 st2 : Store} {fa fb : Dn} {i j r : Int}
theorem int1 (h : fa env st = .ok (.int i) st1) : (cApp bInt2 (cArgs [fa])) env st = .ok (.int i) st1 := (app_ok (args_cons_ok h args_nil_ok)).trans run_int2_int
theorem addI (ha : fa env st = .ok (.int i) st1) (hb : fb env st1 = .ok (.int j) st2) (e : i + j = r) : cBin opAdd fa fb env st = .ok (.int r) st2 := (bin_ok ha hb).trans (by rw [add_ii, e])
theorem subI (ha : fa env st = .ok (.int i) st1) (hb : fb env st1 = .ok (.int j) st2) (e : i - j = r) : cBin opSub fa fb env st = .ok (.int r) st2 := (bin_ok ha hb).trans (by rw [sub_ii, e])
theorem modI (ha : fa env st = .ok (.int i) st1) (hb : fb env st1 = .ok (.int j) st2) (hj : 0 < j) (e : i % j = r) : cBin opMod fa fb env st = .ok (.int r) st2 := (bin_ok ha hb).trans (by rw [mod_ii hj, e])
theorem divI (ha : fa env st = .ok (.int i) st1) (hb : fb env st1 = .ok (.int j) st2) (hj : 0 < j ∧ j < 1073741824) (e : i / j = r) : cBin opFdiv fa fb env st = .ok (.int r) st2 := (bin_ok ha hb).trans (by rw [divR hj, e])
theorem mulI (ha : fa env st = .ok (.int i) st1) (hb : fb env st1 = .ok (.int j) st2) (hj : L2.CMul i j) (e : i * j = r) : cBin opMul fa fb env st = .ok (.int r) st2 := (bin_ok ha hb).trans (by rw [run_mul, if_pos hj, e])
theorem cst {d : PV} : cC d env st = .ok d st := rfl
theorem args1 {f : Dn} {a : PV} (h : f env st = .ok a st1) : cArgs [f] env st = .ok [a] st1 := args_cons_ok h args_nil_ok
theorem args2 {f g : Dn} {a b : PV} (h : f env st = .ok a st1) (h2 : g env st1 = .ok b st2) : cArgs [f, g] env st = .ok [a, b] st2 := args_cons_ok h (args1 h2)
theorem args3 {st3 : Store} {f g k : Dn} {a b c : PV} (h : f env st = .ok a st1) (h2 : g env st1 = .ok b st2) (h3 : k env st2 = .ok c st3) : cArgs [f, g, k] env st = .ok [a, b, c] st3 := args_cons_ok h (args2 h2 h3)
theorem eqI {neg : Bool} (ha : fa env st = .ok (.int i) st1) (hb : fb env st1 = .ok (.int j) st2) {b : Bool} (e : (if neg then !(i == j) else (i == j)) = b) : cBin (opEqB neg) fa fb env st = .ok (.bl b) st2 := (bin_ok ha hb).trans (by subst e; cases neg <;> simp)
end
theorem eqS_ok {a b : Str} {k : Bool} (h : (a == b) = k) : opEqB false (.str a) (.str b) st = .ok (.bl k) st := by rw [eq_ss, h]
theorem neS_ok {a b : Str} {k : Bool} (h : (a == b) = !k) : opEqB true (.str a) (.str b) st = .ok (.bl k) st := by rw [ne_ss, h]; simp
theorem gtI_ok {i j : Int} {k : Bool} (h : decide (j < i) = k) : opGt (.int i) (.int j) st = .ok (.bl k) st := by rw [gt_ii, h]
theorem ltI_ok {i j : Int} {k : Bool} (h : decide (i < j) = k) : opLt (.int i) (.int j) st = .ok (.bl k) st := by rw [lt_ii, h]
theorem leI_ok {i j : Int} {k : Bool} (h : decide (i ≤ j) = k) : opLe (.int i) (.int j) st = .ok (.bl k) st := by rw [le_ii, h]
theorem geI_ok {i j : Int} {k : Bool} (h : decide (j ≤ i) = k) : opGe (.int i) (.int j) st = .ok (.bl k) st := by rw [ge_ii, h]
theorem lenS_ok {s : Str} (h : s.length ≤ 16777216) : bLen [.str s] st = .ok (.int s.length) st := by rw [run_len_str, if_pos (show s.length ≤ sizeLine from h)]
theorem wEnum_ok {f : Dn} {d : PV} {st1 : Store} {p : List PV × Guard} (h : f env st = .ok d st1) (hl : listP d st1 = .ok p st1) : wEnum f env st = .ok (enumP p.1, p.2) st1 := by
  unfold wEnum
  rw [bind_ok h, bind_ok hl]
  rfl
theorem listP_obj {n : Nat} {xs : List PV} (h : st[n]? = some (.lst xs)) : listP (.obj n) st = .ok (xs, [(n, xs)]) st := by unfold listP; simp only [h]
end PyI

/-! PyS1: numbers and rows as texts. -/
namespace PyI
open PySem Sh L2 TL
/-- a number as a text -/
def nt (n : Nat) : Str := Str.ofString (toString ((n : Nat) : Int))
theorem cl_nt (n : Nat) : cl (nt n) = numL n := tl_num n
theorem head_nt : ∀ n : Nat, 0 < n → ∃ c r, numL n = c :: r ∧ c ≠ 48 := by
  intro n
  induction n using Nat.strongRecOn with
  | _ n ih =>
    intro h0
    by_cases h : n < 10
    · exact ⟨48 + n, [], numL_lt h, by omega⟩
    · obtain ⟨c, r, e, hc⟩ := ih (n / 10) (by omega) (by omega)
      exact ⟨c, r ++ [48 + n % 10], by rw [numL_step (by omega), e]; rfl, hc⟩
theorem digits_in : ∀ c : Nat, 48 ≤ c → c ≤ 57 → sgNot ("0123456789" : Str) c = false := by
  intro c h1 h2
  have : c = 48 ∨ c = 49 ∨ c = 50 ∨ c = 51 ∨ c = 52 ∨ c = 53 ∨ c = 54 ∨ c = 55 ∨ c = 56 ∨ c = 57 := by omega
  rcases this with h | h | h | h | h | h | h | h | h | h <;> subst h <;> decide +kernel
theorem fits {v : Nat} (h : v ≤ 1000000000) : fits1920 ((v : Nat) : Int) = true := by
  unfold fits1920
  refine decide_eq_true ?_
  have h1 : ((v : Nat) : Int).natAbs < 2 ^ 30 := by
    rw [Int.natAbs_natCast]
    exact Nat.lt_of_le_of_lt h (by decide)
  exact Nat.lt_trans (PySem.Flt.log2_lt_of (by decide) h1) (by decide)
theorem str_int {v : Nat} {st : Store} (h : v ≤ 1000000000) : bStr [.int (v : Nat)] st = .ok (.str (nt v)) st := run_str_int (fits h)
theorem nt_len {v : Nat} (h : v ≤ 1000000000) : (nt v).length ≤ 10 := by
  rw [cl_len, cl_nt]
  exact numL_len (by decide) (by omega)
theorem nt_free {v c : Nat} (hc : c < 48) : c ∉ cl (nt v) := by
  rw [cl_nt]
  exact numL_free (.inl hc)
theorem fmt_int {v : Nat} {env : EnvP} {st st1 : Store} {f : Dn} (h : f env st = .ok (.int (v : Nat)) st1) (hv : v ≤ 1000000000) : cFmt f env st = .ok (.str (nt v)) st1 := by
  have := of_decide_eq_true (fits hv)
  rw [run_fmt, h]
  simp only [if_pos this]
  rfl
theorem fmt_str {s : Str} {env : EnvP} {st st1 : Store} {f : Dn} (h : f env st = .ok (.str s) st1) (hv : s.length ≤ 16777216) : cFmt f env st = .ok (.str s) st1 := by
  rw [run_fmt, h]
  simp only [if_pos (show s.length ≤ sizeLine from hv)]
variable {D : Prg}
section
variable [F1 : Fn D ("read_number" : Str) 3 5 b_read_number]
theorem read_number_ok {n : Nat} {s : Str} {k lo hi : Int} {st : Store} (h0 : (s == ("" : Str)) = false) (h1 : s.length ≤ 10) (h2 : signsB false (sgNot ("0123456789" : Str)) s = false) (c : Nat) (h3 : L2.atI s.cps.toList 0 = some c) (h4 : ((⟨#[c]⟩ : Str) == ("0" : Str)) = true → (s == ("0" : Str)) = true) (h5 : PySem.intText? s = some k) (h6 : lo ≤ k) (h7 : k ≤ hi) :
    D (n + 1) ("read_number" : Str) [.str s, .int lo, .int hi] st = .ok (.int k) st := by
  rw [F1.run]
  refine (call_ret (st' := st) (d := .int k) ?_).trans (by rw [gc_same])
  have hz : s.length ≤ sizeLine := by have : sizeLine = 2 ^ 24 := rfl; omega
  have hs : ¬ (10 < (s.length : Int)) := by omega
  have hi' := run_int2_str (st := st) h5 (by omega)
  have hg : getItemP (.str s) (.int 0) st = .ok (.str ⟨#[c]⟩) st := by simp [getItemP, hz, h3]
  unfold b_read_number
  by_cases hc : ((⟨#[c]⟩ : Str) == ("0" : Str)) = true
  · simp [startP, h0, hz, hs, h2, hg, hc, h4 hc, hi', h6, h7]
  · have hc : ((⟨#[c]⟩ : Str) == ("0" : Str)) = false := by simpa using hc
    simp [startP, h0, hz, hs, h2, hg, hc, hi', h6, h7]
theorem rn_ok {m v : Nat} {lo hi : Int} {st : Store} (hv : v ≤ 1000000000) (h6 : lo ≤ (v : Int)) (h7 : (v : Int) ≤ hi) : D (m + 1) ("read_number" : Str) [.str (nt v), .int lo, .int hi] st = .ok (.int v) st := by
  have hl : (numL v).length ≤ 10 := numL_len (by decide) (by omega)
  have ne0 : ∀ x : Str, (nt v == x) = true → numL v = PyI.cl x := fun x h => by rw [← eq_of_beq h, cl_nt]
  obtain ⟨c, r, e⟩ : ∃ c r, numL v = c :: r := by
    cases q : numL v with
    | nil => exact absurd q (numL_ne v)
    | cons c r => exact ⟨c, r, rfl⟩
  refine read_number_ok ?_ (by rw [PyI.cl_len, cl_nt]; exact hl) ?_ c ?_ ?_ (int_num (by omega)) h6 h7
  · cases q : (nt v == ("" : Str)) with
    | false => rfl
    | true =>
      have := ne0 _ q
      rw [show PyI.cl ("" : Str) = [] from by decide +kernel] at this
      exact absurd this (numL_ne v)
  · unfold signsB
    rw [if_neg (by decide), show (nt v).cps.toList = numL v from cl_nt v]
    rw [List.any_eq_false]
    intro x hx
    have := numL_digits v x hx
    rw [digits_in x this.1 this.2]
    decide
  · rw [show (nt v).cps.toList = numL v from cl_nt v, e]
    simp [L2.atI, L2.ixN]
  · intro h
    have hc : c = 48 := by
      have := congrArg PyI.cl (eq_of_beq h)
      rw [show PyI.cl ("0" : Str) = [48] from by decide +kernel] at this
      simpa [PyI.cl] using this
    by_cases hv0 : 0 < v
    · obtain ⟨c', r', e', hc'⟩ := head_nt v hv0
      rw [e] at e'
      injection e' with e1 _
      exact absurd (e1 ▸ hc) hc'
    · have : v = 0 := by omega
      subst this
      decide +kernel
end
/-! ### rows -/
theorem sp : (" " : Str) = ⟨#[32]⟩ := by decide +kernel
theorem nl : ("\n" : Str) = ⟨#[10]⟩ := by decide +kernel
/-- the text of rows -/
def txt (rows : List Str) : Str := Str.join ("" : Str) (rows.map (· ++ ("\n" : Str)))
/-- words, a blank between -/
def row (ws : List Str) : Str := Str.join (" " : Str) ws
theorem split_row {ws : List Str} (hne : ws ≠ []) (h : ∀ p ∈ ws, (32 : Nat) ∉ cl p) : Txt.split (row ws) (" " : Str) = ws := by
  unfold row
  rw [sp]
  exact split_join hne h
theorem row_free {c : Nat} (hc : c ≠ 32) : ∀ {ws : List Str}, (∀ p ∈ ws, c ∉ cl p) → c ∉ cl (row ws)
  | [], _ => fun z => by
    have e : cl (row []) = [] := by decide +kernel
    rw [e] at z; cases z
  | [a], h => h a List.mem_cons_self
  | a :: b :: r, h => by
    unfold row
    rw [join_cons]
    intro z
    rcases List.mem_append.mp z with z | z
    · rcases List.mem_append.mp z with z | z
      · exact h a List.mem_cons_self z
      · rw [sp] at z
        simp [cl] at z
        exact hc z
    · exact row_free hc (fun p hp => h p (List.mem_cons_of_mem _ hp)) z
theorem split_txt {rows : List Str} (h : ∀ p ∈ rows, (10 : Nat) ∉ cl p) : Txt.split (txt rows) ("\n" : Str) = rows ++ [("" : Str)] := by
  unfold txt
  rw [nl]
  exact split_rows h
theorem txt_len {m : Nat} : ∀ {rows : List Str}, (∀ r ∈ rows, r.length ≤ m) → (txt rows).length ≤ (m + 1) * rows.length
  | rows, h => by
    unfold txt
    rw [cl_len, cl_rows]
    induction rows with
    | nil => simp
    | cons a r ih =>
      have h1 := h a List.mem_cons_self
      have h2 := ih fun d hd => h d (List.mem_cons_of_mem _ hd)
      rw [cl_len] at h1
      rw [List.flatMap_cons, List.length_append, List.length_append, List.length_cons, Nat.mul_add]
      have : (cl ("\n" : Str)).length = 1 := by decide +kernel
      omega
theorem map2 {α β γ : Type} (f : α → β) (g : β → γ) (l : List α) : (l.map f).map g = l.map fun x => g (f x) := by rw [List.map_map]; rfl
theorem rt_ok {k : Nat} {rows : List Str} {st : Store} (h : st[k]? = some (.lst (rows.map PV.str))) (hr : ∀ r ∈ rows, r.length ≤ 2000) (hl : rows.length ≤ 5100) :
    (cMetL mJoinL (cC (.str ("" : Str))) (cCompN (wVal (cVar 0)) (.name 1) (cTrue) (cBin opAdd (cVar 1) (cC (.str ("\n" : Str)))) [1])) (startP 2 [.obj k]) st = .ok (.str (txt rows)) st := by
  have hz : sizeLine = 2 ^ 24 := rfl
  have n1 : ("\n" : Str).length = 1 := by decide +kernel
  have comp : (cCompN (wVal (cVar 0)) (.name 1) (cTrue) (cBin opAdd (cVar 1) (cC (.str ("\n" : Str)))) [1]) (startP 2 [.obj k]) st = .ok ((rows.map (· ++ ("\n" : Str))).map PV.str) st := by
    refine comp_ok2 (wVal_ok (var_ok rfl) (items_obj h)) (gd_one' h) (by simp; omega) ?_
    rw [map2]
    refine All2.map fun r hr' => ⟨_, rfl, rfl, ?_⟩
    exact (bin_ok (var_ok rfl) c_ok).trans (add_ss (by have := hr r hr'; omega))
  have hsum : ((rows.map (· ++ ("\n" : Str))).map (·.length)).sum ≤ 2001 * rows.length := by
    clear comp h hl
    induction rows with
    | nil => simp
    | cons a r ih =>
      have h1 := hr a List.mem_cons_self
      have h2 := ih fun x hx => hr x (List.mem_cons_of_mem _ hx)
      have e : (a ++ ("\n" : Str)).length = a.length + 1 := by rw [len_append, n1]
      simp only [List.map_cons, List.sum_cons, List.length_cons] at h2 ⊢
      rw [e]
      omega
  have e0 : ("" : Str).length = 0 := by decide +kernel
  refine (metL_ok c_ok comp).trans ?_
  exact joinP_ok (by rw [e0, List.length_map]; omega)
theorem rows_text_ok [F : Fn D ("rows_text" : Str) 1 2 b_rows_text] {n k : Nat} {rows : List Str} {st : Store} (h : st[k]? = some (.lst (rows.map PV.str))) (hr : ∀ r ∈ rows, r.length ≤ 2000) (hl : rows.length ≤ 5100) : D (n + 1) ("rows_text" : Str) [.obj k] st = .ok (.str (txt rows)) st := by
  rw [F.run]
  exact (call_ret (seq_ret (ret_ok (rt_ok h hr hl)))).trans (by rw [gc_same])
theorem law_text_ok [F : Fn D ("_law_text" : Str) 1 2 b_law_text] {n k : Nat} {rows : List Str} {st : Store} (h : st[k]? = some (.lst (rows.map PV.str))) (hr : ∀ r ∈ rows, r.length ≤ 2000) (hl : rows.length ≤ 5100) : D (n + 1) ("_law_text" : Str) [.obj k] st = .ok (.str (txt rows)) st := by
  rw [F.run]
  exact (call_ret (seq_ret (ret_ok (rt_ok h hr hl)))).trans (by rw [gc_same])
theorem text_rows_ok [F : Fn D ("text_rows" : Str) 1 2 b_text_rows] {n : Nat} {rows : List Str} {st : Store} (hf : ∀ r ∈ rows, (10 : Nat) ∉ cl r) (hr : ∀ r ∈ rows, r.length ≤ 2000) (hl : rows.length ≤ 5100) : D (n + 1) ("text_rows" : Str) [.str (txt rows)] st =
    .ok (.tup [.obj (st.length + 1), .bl true]) (st ++ [.lst ((rows ++ [("" : Str)]).map PV.str), .lst (rows.map PV.str)]) := by
  have hz : sizeLine = 2 ^ 24 := rfl
  have hlen := txt_len hr
  have hsp := split_txt hf
  refine fn_grow [some (.str (txt rows)), none] (by rfl) (by simp [PV.bound, PV.bounds]) ?_
  unfold b_text_rows
  have E1 := split_ok (fo := cVar 0) (fa := cC (.str ("\n" : Str))) (env := ([some (.str (txt rows)), none] : EnvP)) (st := st) (s := txt rows) (b := ("\n" : Str)) (var_ok rfl) c_ok (by decide +kernel) (by omega)
  rw [hsp] at E1
  refine P_asg (keep_ok E1) ?_
  generalize hA : Ob.lst ((rows ++ [("" : Str)]).map PV.str) = A
  have g1 : (st ++ [A])[st.length]? = some A := by simp
  have g2 : ((st ++ [A]) ++ [.lst (rows.map PV.str)])[st.length]? = some A := by simp
  have x1 : getItemP (.obj st.length) (.int (-1)) ((st ++ [A]) ++ [.lst (rows.map PV.str)]) = .ok (.str ("" : Str)) ((st ++ [A]) ++ [.lst (rows.map PV.str)]) := get_obj (by rw [g2, ← hA]) (by rw [List.map_append]; exact at_last)
  have y1 : (cSlice (cVar 1) none (some (cUn opNeg (cC (.int (1)))))) ((([some (.str (txt rows)), none] : EnvP)).set 1 (some (.obj st.length))) (st ++ [A]) = .ok (.obj (st.length + 1)) ((st ++ [A]) ++ [.lst (rows.map PV.str)]) := by
    rw [slice_ok (a := .obj st.length) (l := none) (u := some (-1)) (st1 := st ++ [A]) (st2 := st ++ [A]) (st3 := st ++ [A]) (var_ok rfl) part_none (part_some rfl), slice_obj (xs := (rows ++ [("" : Str)]).map PV.str) (by rw [g1, hA]), List.map_append, List.map_cons, List.map_nil, cut_init]
    simp
  refine P_ret (tup_ok (args_cons_ok y1 (args_cons_ok ((bin_ok ((bin_ok (var_ok rfl) (un_ok c_ok)).trans x1) c_ok).trans eq_ss) args_nil_ok)) (show 2 ≤ sizeLine by decide)) ?_
  refine ⟨by simp, by simp⟩
end PyI

/-! PyS2: what laws draw: windows, hello tables, editions. -/
namespace PyI
open PySem Sh L2
variable {D : Prg}
theorem mulS {i j : Int} {st : Store} (h : -(2 ^ 64) < i) (h' : i < 2 ^ 64) : opMul (.int i) (.int j) st = .ok (.int (i * j)) st := ii_ok (.inl ⟨h, h'⟩)
theorem modS {i j : Int} {st : Store} (h : 0 < j) : opMod (.int i) (.int j) st = .ok (.int (i % j)) st := mod_ii h
theorem divS {i j : Int} {st : Store} (h : 0 < j) (h2 : j < 1073741824) : opFdiv (.int i) (.int j) st = .ok (.int (i / j)) st := ii_ok ⟨h, h2⟩
def lawDeed (k c : Int) : Str := if k < 3 then (["none", "move", "bare", "wipe", "move", "move"] : List Str).getD (c % 6).toNat "" else if k = 3 then (["none", "mark", "wipe", "mark"] : List Str).getD (c % 4).toNat "" else (["none", "wipe", "none", "none"] : List Str).getD (c % 4).toNat ""
theorem law_deed_ok [F : Fn D ("_law_deed" : Str) 2 2 b_law_deed] {n : Nat} {k c : Int} {st : Store} : D (n + 1) ("_law_deed" : Str) [.int k, .int c] st = .ok (.str (lawDeed k c)) st := by
  have h6 : ∀ c : Int, ∃ j : Nat, j < 6 ∧ c % 6 = (j : Nat) := fun c => ⟨(c % 6).toNat, by omega, by omega⟩
  have h4 : ∀ c : Int, ∃ j : Nat, j < 4 ∧ c % 4 = (j : Nat) := fun c => ⟨(c % 4).toNat, by omega, by omega⟩
  have hz : (6 : Nat) ≤ sizeLine := by decide
  have hz4 : (4 : Nat) ≤ sizeLine := by decide
  have g : ∀ (l : List Str) (j : Nat), j < l.length → getItemP (.tup (l.map PV.str)) (.int (j : Nat)) st = .ok (.str (l.getD j "")) st := fun l j hj => get_tup (at_nat (by rw [List.getElem?_map, List.getElem?_eq_getElem hj]; simp [List.getD, List.getElem?_eq_getElem hj]))
  obtain ⟨j, hj, e6⟩ := h6 c
  obtain ⟨i, hi, e4⟩ := h4 c
  refine fn_pure [some (.int k), some (.int c)] (by rfl) rfl ?_
  unfold b_law_deed lawDeed
  by_cases h1 : k < 3
  · have := g ["none", "move", "bare", "wipe", "move", "move"] j hj
    simp only [List.map_cons, List.map_nil] at this
    simp [startP, h1, hz, e6, this]
  · by_cases h2 : k = 3
    · have := g ["none", "mark", "wipe", "mark"] i hi
      simp only [List.map_cons, List.map_nil] at this
      simp [startP, h1, h2, hz4, e4, this]
    · have := g ["none", "wipe", "none", "none"] i hi
      simp only [List.map_cons, List.map_nil] at this
      simp [startP, h1, h2, hz4, e4, this]

/-! ### the row of drawn numbers -/
def rowAt (vs : List Nat) (j : Int) : Int := ((vs.getD j.toNat 0 : Nat) : Int)
abbrev rowOb (vs : List Nat) : Ob := .lst (vs.map fun v => PV.int (v : Nat))
theorem row_get {k : Nat} {vs : List Nat} {st : Store} {j : Int} (h : st[k]? = some (rowOb vs)) (h0 : 0 ≤ j) (h1 : j < vs.length) : getItemP (.obj k) (.int j) st = .ok (.int (rowAt vs j)) st := by
  obtain ⟨i, rfl⟩ : ∃ i : Nat, j = i := ⟨j.toNat, by omega⟩
  have hi : i < vs.length := by omega
  refine get_obj h (at_nat ?_)
  rw [List.getElem?_map, List.getElem?_eq_getElem hi]
  simp [rowAt, List.getD, List.getElem?_eq_getElem hi]
theorem rowAt_nonneg (vs : List Nat) (j : Int) : 0 ≤ rowAt vs j := Int.natCast_nonneg _
theorem rowAt_le {vs : List Nat} {m : Nat} (h : ∀ v ∈ vs, v ≤ m) (j : Int) : rowAt vs j ≤ m := by
  unfold rowAt
  by_cases hj : j.toNat < vs.length
  · have := h _ (List.getElem_mem hj)
    simp [List.getD, List.getElem?_eq_getElem hj]
    omega
  · simp [List.getD, List.getElem?_eq_none (Nat.le_of_not_lt hj)]
/-! ### windows -/
structure WE where
  t : Bool
  f : Bool
  d : Str
  s : Int
def WE.pv (e : WE) : PV := .tup [.bl e.t, .bl e.f, .str e.d, .int e.s]
def encT {α : Type} (f : α → PV) (l : List α) : PV := .tup (l.map f)
abbrev encW (w : List (List WE)) : PV := encT (encT WE.pv) w
def lawWE (vs : List Nat) (at' states : Int) (i k : Nat) : WE :=
  ⟨if 3 < (k : Int) then rowAt vs (at' + 4 * (6 * i + k)) % 4 == 0 else decide (0 < rowAt vs (at' + 4 * (6 * i + k)) % 3), rowAt vs (at' + 4 * (6 * i + k) + 1) % 2 == 0, lawDeed k (rowAt vs (at' + 4 * (6 * i + k) + 2)), rowAt vs (at' + 4 * (6 * i + k) + 3) % states⟩
def lawWindow (vs : List Nat) (at' : Int) (states : Nat) : List (List WE) := (List.range states).map fun i => (List.range 6).map fun k => lawWE vs at' states i k
theorem foldl_snoc {α β : Type} (f : α → β) : ∀ (l : List α) (acc : List β), l.foldl (fun s x => s ++ [f x]) acc = acc ++ l.map f
  | [], acc => by simp
  | x :: l, acc => by rw [List.foldl_cons, foldl_snoc f l]; simp
theorem bound_encT {α : Type} {f : α → PV} {n : Nat} (h : ∀ x, (f x).bound n = true) (l : List α) : (encT f l).bound n = true := by
  unfold encT PV.bound
  induction l with
  | nil => rfl
  | cons x l ih => rw [List.map_cons]; unfold PV.bounds; rw [h x, ih]; rfl
theorem WE.bound (n : Nat) (e : WE) : e.pv.bound n = true := by simp [WE.pv, PV.bound, PV.bounds]
theorem getL {st : Store} {n : Nat} {b : Ob} {l : Store} (h : st.length = n) : (st ++ b :: l)[n]? = some b := by subst h; simp
theorem setL {st : Store} {n : Nat} {a b : Ob} {l : Store} (h : st.length = n) : (st ++ a :: l).set n b = st ++ b :: l := by subst h; simp
theorem getO {st : Store} {k : Nat} {b : Ob} (h : st[k]? = some b) (t : Store) : (st ++ t)[k]? = some b := by
  rw [List.getElem?_append_left (List.getElem?_eq_some_iff.mp h).1]; exact h
theorem app_L {st : Store} {n : Nat} {xs : List PV} {x : PV} {l : Store} (h : st.length = n) (hl : xs.length < 16777216) : mAppend (.obj n) [x] (st ++ .lst xs :: l) = .ok .non (st ++ .lst (xs ++ [x]) :: l) := by
  rw [append_ok (getL h) hl, setL h]
theorem ty_L {st : Store} {n : Nat} {xs : List PV} {l : Store} (h : st.length = n) : tyOk "list" (st ++ .lst xs :: l) (.obj n) = true := tyOk_lst (getL h)
theorem tup_L {st : Store} {n : Nat} {xs : List PV} {l : Store} (h : st.length = n) : bTuple [.obj n] (st ++ .lst xs :: l) = .ok (.tup xs) (st ++ .lst xs :: l) := tuple_obj (getL h)

theorem law_window_ok [F1 : Fn D ("_law_deed" : Str) 2 2 b_law_deed] [F : Fn D ("_law_window" : Str) 3 9 b_law_window] {n k : Nat} {vs : List Nat} {at' : Int} {states : Nat} {st : Store} (hk : st[k]? = some (rowOb vs)) (ha : 0 ≤ at') (hs : at' + 24 * states ≤ vs.length) (h1 : 1 ≤ states) (h2 : states ≤ 1000) :
    D (n + 2) ("_law_window" : Str) [.obj k, .int at', .int states] st = .ok (encW (lawWindow vs at' states)) st := by
  refine fn_pure [some (.obj k), some (.int at'), some (.int states), none, none, none, none, none, none] (by rfl) (bound_encT (fun r => bound_encT (WE.bound _) _) _) ?_
  unfold b_law_window
  refine P_new ?_
  refine P_sFor (range_ok (var_ok rfl) (by omega)) ?_
  rw [Int.toNat_natCast]
  refine P_forL (fun i : Nat => PV.int (i : Nat)) (fun pre env st' => (∃ x4 x5 x6 x7 x8, env = [some (.obj k), some (.int at'), some (.int states), some (.obj st.length), x4, x5, x6, x7, x8]) ∧ ∃ G, st' = st ++ .lst ((pre.map fun i => (List.range 6).map fun k => lawWE vs at' states i k).map (encT WE.pv)) :: G) (List.range states) ⟨⟨_, _, _, _, _, rfl⟩, [], rfl⟩ ?_ ?_
  · rintro pre i post env st' hl ⟨⟨x4, x5, x6, x7, x8, rfl⟩, G, rfl⟩
    have hlen := congrArg List.length hl
    simp at hlen
    have hi : i < states := by have : i ∈ List.range states := by rw [hl]; simp
                               exact List.mem_range.mp this
    refine ⟨_, rfl, ?_⟩
    generalize hT : (pre.map fun i => (List.range 6).map fun k => lawWE vs at' states i k).map (encT WE.pv) = T
    have hTl : T.length = pre.length := by rw [← hT]; simp
    refine P_new ?_
    refine P_sFor (range_ok (j := 6) c_ok (by omega)) ?_
    generalize hB : st ++ .lst T :: G = B
    have hkB : B[k]? = some (rowOb vs) := by rw [← hB]; exact getO hk _
    refine P_forL (fun i : Nat => PV.int (i : Nat)) (fun pr env st' => (∃ x6 x7 x8, env = [some (.obj k), some (.int at'), some (.int states), some (.obj st.length), some (.int i), some (.obj B.length), x6, x7, x8]) ∧ st' = B ++ [.lst ((pr.map fun k => lawWE vs at' states i k).map WE.pv)]) (List.range 6) ⟨⟨_, _, _, rfl⟩, rfl⟩ ?_ ?_
    · rintro pr kd po env st' hl2 ⟨⟨x6, x7, x8, rfl⟩, rfl⟩
      have hlen2 := congrArg List.length hl2
      simp at hlen2
      have hkd : kd < 6 := by have : kd ∈ List.range 6 := by rw [hl2]; simp
                              exact List.mem_range.mp this
      refine ⟨_, rfl, ?_⟩
      generalize hE : (pr.map fun k => lawWE vs at' states i k).map WE.pv = E
      have hEl : E.length = pr.length := by rw [← hE]; simp
      have row := fun j => row_get (j := j) (getO hkB [.lst E])
      have g0 := row (at' + 4 * (6 * i + kd)) (by omega) (by omega)
      have g1 := row (at' + 4 * (6 * i + kd) + 1) (by omega) (by omega)
      have g2 := row (at' + 4 * (6 * i + kd) + 2) (by omega) (by omega)
      have g3 := row (at' + 4 * (6 * i + kd) + 3) (by omega) (by omega)
      have d := law_deed_ok (D := D) (n := n) (k := kd) (c := rowAt vs (at' + 4 * (6 * i + kd) + 2)) (st := B ++ [.lst E])
      have ap := fun x => app_L (st := B) (xs := E) (x := x) (l := []) rfl (by omega)
      have ty := ty_L (st := B) (xs := E) (l := []) rfl
      have hz : (4 : Nat) ≤ sizeLine := by decide
      have hst : 0 < states := h1
      have fin : (B ++ [Ob.lst (E ++ [(lawWE vs at' states i kd).pv])]) = B ++ [Ob.lst (((pr ++ [kd]).map fun k => lawWE vs at' states i k).map WE.pv)] := by rw [List.map_append, List.map_append, hE]; rfl
      rw [← fin]
      by_cases h3 : 3 < (kd : Int)
      · simp [CMul, g0, g1, g2, g3, d, ap, ty, hz, hst, h3, lawWE, WE.pv]
      · simp [CMul, g0, g1, g2, g3, d, ap, ty, hz, hst, h3, lawWE, WE.pv]
    · rintro env st' ⟨⟨x6, x7, x8, rfl⟩, rfl⟩
      generalize hE : ((List.range 6).map fun k => lawWE vs at' states i k).map WE.pv = E
      have tp := tup_L (st := B) (n := B.length) (xs := E) (l := []) rfl
      have eB : B ++ [Ob.lst E] = st ++ .lst T :: (G ++ [.lst E]) := by rw [← hB]; simp
      have ap := fun x => app_L (st := st) (n := st.length) (xs := T) (x := x) (l := G ++ [.lst E]) rfl (by omega)
      have ty := ty_L (st := st) (n := st.length) (xs := T) (l := G ++ [.lst E]) rfl
      rw [← eB] at ap ty
      simp [ap, ty, tp, hT]
      first
        | (rw [← hE]; rfl)
        | exact ⟨_, by rw [← hE]; rfl⟩
  · rintro env st' ⟨⟨x4, x5, x6, x7, x8, rfl⟩, G, rfl⟩
    exact P_ret ((app_ok (args_cons_ok (var_ok rfl) args_nil_ok)).trans (tup_L rfl)) ⟨by rfl, _, rfl⟩
end PyI

/-! PyS3: what laws draw: hello tables, editions. -/
namespace PyI
open PySem Sh L2
variable {D : Prg}
/-! ### hello tables -/
structure HE where
  d : Str
  s : Int
def HE.pv (e : HE) : PV := .tup [.str e.d, .int e.s]
theorem HE.bound (n : Nat) (e : HE) : e.pv.bound n = true := by simp [HE.pv, PV.bound, PV.bounds]
abbrev encH (w : List (List HE)) : PV := encT (encT HE.pv) w
def lawHD (k : Nat) (c : Int) : Str := (if k = 4 then ["open", "open", "ignore", "open"] else if k % 2 = 1 then ["ignore", "anew", "front", "drop"] else ["ignore", "open", "ignore", "open"] : List Str).getD (c % 4).toNat ""
def lawHE (vs : List Nat) (at' states : Int) (i k : Nat) : HE := ⟨lawHD k (rowAt vs (at' + 2 * (5 * i + k))), rowAt vs (at' + 2 * (5 * i + k) + 1) % states⟩
def lawHellos (vs : List Nat) (at' : Int) (states : Nat) : List (List HE) := (List.range states).map fun i => (List.range 5).map fun k => lawHE vs at' states i k
theorem get4 {l : List Str} (hl : l.length = 4) (c : Int) {st : Store} : getItemP (.tup (l.map PV.str)) (.int (c % 4)) st = .ok (.str (l.getD (c % 4).toNat "")) st := by
  obtain ⟨j, hj, e⟩ : ∃ j : Nat, j < 4 ∧ c % 4 = (j : Nat) := ⟨(c % 4).toNat, by omega, by omega⟩
  rw [e, Int.toNat_natCast]
  exact get_tup (at_nat (by rw [List.getElem?_map, List.getElem?_eq_getElem (by omega)]; simp [List.getD, List.getElem?_eq_getElem (show j < l.length by omega)]))
theorem law_hellos_ok [F : Fn D ("_law_hellos" : Str) 3 9 b_law_hellos] {n k : Nat} {vs : List Nat} {at' : Int} {states : Nat} {st : Store} (hk : st[k]? = some (rowOb vs)) (ha : 0 ≤ at') (hs : at' + 10 * states ≤ vs.length) (h1 : 1 ≤ states) (h2 : states ≤ 1000) :
    D (n + 1) ("_law_hellos" : Str) [.obj k, .int at', .int states] st = .ok (encH (lawHellos vs at' states)) st := by
  refine fn_pure [some (.obj k), some (.int at'), some (.int states), none, none, none, none, none, none] (by rfl) (bound_encT (fun r => bound_encT (HE.bound _) _) _) ?_
  unfold b_law_hellos
  refine P_new ?_
  refine P_sFor (range_ok (var_ok rfl) (by omega)) ?_
  rw [Int.toNat_natCast]
  refine P_forL (fun i : Nat => PV.int (i : Nat)) (fun pre env st' => (∃ x4 x5 x6 x7 x8, env = [some (.obj k), some (.int at'), some (.int states), some (.obj st.length), x4, x5, x6, x7, x8]) ∧ ∃ G, st' = st ++ .lst ((pre.map fun i => (List.range 5).map fun k => lawHE vs at' states i k).map (encT HE.pv)) :: G) (List.range states) ⟨⟨_, _, _, _, _, rfl⟩, [], rfl⟩ ?_ ?_
  · rintro pre i post env st' hl ⟨⟨x4, x5, x6, x7, x8, rfl⟩, G, rfl⟩
    have hlen := congrArg List.length hl
    simp at hlen
    have hi : i < states := by have : i ∈ List.range states := by rw [hl]; simp
                               exact List.mem_range.mp this
    refine ⟨_, rfl, ?_⟩
    generalize hT : (pre.map fun i => (List.range 5).map fun k => lawHE vs at' states i k).map (encT HE.pv) = T
    have hTl : T.length = pre.length := by rw [← hT]; simp
    refine P_new ?_
    refine P_sFor (range_ok (j := 5) c_ok (by omega)) ?_
    generalize hB : st ++ .lst T :: G = B
    have hkB : B[k]? = some (rowOb vs) := by rw [← hB]; exact getO hk _
    refine P_forL (fun i : Nat => PV.int (i : Nat)) (fun pr env st' => (∃ x6 x7 x8, env = [some (.obj k), some (.int at'), some (.int states), some (.obj st.length), some (.int i), some (.obj B.length), x6, x7, x8]) ∧ st' = B ++ [.lst ((pr.map fun k => lawHE vs at' states i k).map HE.pv)]) (List.range 5) ⟨⟨_, _, _, rfl⟩, rfl⟩ ?_ ?_
    · rintro pr kd po env st' hl2 ⟨⟨x6, x7, x8, rfl⟩, rfl⟩
      have hlen2 := congrArg List.length hl2
      simp at hlen2
      have hkd : kd < 5 := by have : kd ∈ List.range 5 := by rw [hl2]; simp
                              exact List.mem_range.mp this
      refine ⟨_, rfl, ?_⟩
      generalize hE : (pr.map fun k => lawHE vs at' states i k).map HE.pv = E
      have hEl : E.length = pr.length := by rw [← hE]; simp
      have row := fun j => row_get (j := j) (getO hkB [.lst E])
      have g0 := row (at' + 2 * (5 * i + kd)) (by omega) (by omega)
      have g1 := row (at' + 2 * (5 * i + kd) + 1) (by omega) (by omega)
      have ap := fun x => app_L (st := B) (xs := E) (x := x) (l := []) rfl (by omega)
      have ty := ty_L (st := B) (xs := E) (l := []) rfl
      have hz : (4 : Nat) ≤ sizeLine := by decide
      have hz2 : (2 : Nat) ≤ sizeLine := by decide
      have hst : 0 < states := h1
      have fin : (B ++ [Ob.lst (E ++ [(lawHE vs at' states i kd).pv])]) = B ++ [Ob.lst (((pr ++ [kd]).map fun k => lawHE vs at' states i k).map HE.pv)] := by rw [List.map_append, List.map_append, hE]; rfl
      rw [← fin]
      have q1 := get4 (l := ["ignore", "open", "ignore", "open"]) rfl (rowAt vs (at' + 2 * (5 * i + kd))) (st := B ++ [.lst E])
      have q2 := get4 (l := ["ignore", "anew", "front", "drop"]) rfl (rowAt vs (at' + 2 * (5 * i + kd))) (st := B ++ [.lst E])
      have q3 := get4 (l := ["open", "open", "ignore", "open"]) rfl (rowAt vs (at' + 2 * (5 * i + kd))) (st := B ++ [.lst E])
      simp only [List.map_cons, List.map_nil] at q1 q2 q3
      have hc : kd = 0 ∨ kd = 1 ∨ kd = 2 ∨ kd = 3 ∨ kd = 4 := by omega
      rcases hc with rfl | rfl | rfl | rfl | rfl <;> simp [CMul] at g0 g1 q1 q2 q3 ⊢ <;> simp [CMul, g0, g1, q1, q2, q3, ap, ty, hz, hz2, hst, lawHE, lawHD, HE.pv]
    · rintro env st' ⟨⟨x6, x7, x8, rfl⟩, rfl⟩
      generalize hE : ((List.range 5).map fun k => lawHE vs at' states i k).map HE.pv = E
      have tp := tup_L (st := B) (n := B.length) (xs := E) (l := []) rfl
      have eB : B ++ [Ob.lst E] = st ++ .lst T :: (G ++ [.lst E]) := by rw [← hB]; simp
      have ap := fun x => app_L (st := st) (n := st.length) (xs := T) (x := x) (l := G ++ [.lst E]) rfl (by omega)
      have ty := ty_L (st := st) (n := st.length) (xs := T) (l := G ++ [.lst E]) rfl
      rw [← eB] at ap ty
      simp [ap, ty, tp, hT]
      first
        | (rw [← hE]; rfl)
        | exact ⟨_, by rw [← hE]; rfl⟩
  · rintro env st' ⟨⟨x4, x5, x6, x7, x8, rfl⟩, G, rfl⟩
    exact P_ret ((app_ok (args_cons_ok (var_ok rfl) args_nil_ok)).trans (tup_L rfl)) ⟨by rfl, _, rfl⟩
/-! ### powers, prefixes -/
theorem law_power_ok [F : Fn D ("_law_power" : Str) 1 3 b_law_power] {n l : Nat} {st : Store} (hl : l ≤ 1000) : D (n + 1) ("_law_power" : Str) [.int l] st = .ok (.int (2 ^ l : Nat)) st := by
  refine fn_pure [some (.int l), none, none] (by rfl) (by rfl) ?_
  unfold b_law_power
  refine P_asg c_ok ?_
  refine P_sFor (range_ok (var_ok rfl) (by omega)) ?_
  rw [Int.toNat_natCast]
  refine P_forL (fun i : Nat => PV.int (i : Nat)) (fun pre env st' => (∃ x2, env = [some (.int l), some (.int (2 ^ pre.length : Nat)), x2]) ∧ st' = st) (List.range l) ⟨⟨_, rfl⟩, rfl⟩ ?_ ?_
  · rintro pre i post env st' hl ⟨⟨x2, rfl⟩, rfl⟩
    refine ⟨_, rfl, ?_⟩
    simp [CMul]
    rw [Int.pow_succ, Int.mul_comm]
  · rintro env st' ⟨⟨x2, rfl⟩, rfl⟩
    refine P_ret (var_ok rfl) ⟨?_, [], by simp⟩
    simp
/-- a prefix: its length, its bits -/
structure PX where
  l : Nat
  b : Nat
def PX.pv (p : PX) : PV := .tup [.int p.l, .int p.b]
def lawPX (c bits : Nat) : PX := ⟨c % (bits + 1), c / (bits + 1) % 2 ^ (c % (bits + 1))⟩
theorem PX.bound (n : Nat) (p : PX) : p.pv.bound n = true := by simp [PX.pv, PV.bound, PV.bounds]
theorem law_prefix_ok [F1 : Fn D ("_law_power" : Str) 1 3 b_law_power] [F : Fn D ("_law_prefix" : Str) 2 3 b_law_prefix] {n c bits : Nat} {st : Store} (hb : bits ≤ 100) : D (n + 2) ("_law_prefix" : Str) [.int c, .int bits] st = .ok (lawPX c bits).pv st := by
  refine fn_pure [some (.int c), some (.int bits), none] (by rfl) (PX.bound _ _) ?_
  unfold b_law_prefix
  have hm : c % (bits + 1) ≤ bits := by have := Nat.mod_lt c (show 0 < bits + 1 by omega); omega
  have e1 : ((c : Int) % ((bits : Int) + 1)) = ((c % (bits + 1) : Nat) : Int) := by push_cast; rfl
  have e2 : ((c : Int) / ((bits : Int) + 1)) = ((c / (bits + 1) : Nat) : Int) := by push_cast; rfl
  have pw := law_power_ok (D := D) (n := n) (l := c % (bits + 1)) (st := st) (by omega)
  have hz2 : (2 : Nat) ≤ sizeLine := by decide
  have hd : L2.CDiv (c : Int) ((bits : Int) + 1) := ⟨by omega, by omega⟩
  have hp : 0 < (bits : Int) + 1 := by omega
  have hq : (0 : Int) < ((2 ^ (c % (bits + 1)) : Nat) : Int) := by have := Nat.pow_pos (n := c % (bits + 1)) (show 0 < 2 by decide); omega
  refine P_asg (modI (int1 (var_ok rfl)) (addI (var_ok rfl) cst rfl) hp e1) ?_
  have hmm : ((c / (bits + 1) : Nat) : Int) % ((2 ^ (c % (bits + 1)) : Nat) : Int) = ((c / (bits + 1) % 2 ^ (c % (bits + 1)) : Nat) : Int) := by push_cast; rfl
  exact P_ret (tup_ok (args2 (var_ok rfl) (modI (divI (int1 (var_ok rfl)) (addI (var_ok rfl) cst rfl) hd e2) (call_ok' (args1 (var_ok rfl)) rfl pw) hq hmm)) hz2) ⟨rfl, [], by simp⟩
end PyI

/-! PyS4: what laws draw: editions. -/
namespace PyI
open PySem Sh L2
variable {D : Prg}
/-- a rule: the writer's part, the taker's, the answer -/
structure RL where
  s : PX
  t : PX
  a : Nat
def RL.pv (r : RL) : PV := .tup [r.s.pv, r.t.pv, .int r.a]
theorem RL.bound (n : Nat) (r : RL) : r.pv.bound n = true := by simp [RL.pv, PX.pv, PV.bound, PV.bounds]
def PX.pd (p : PX) : PyData := .tuple [.int p.l, .int p.b]
def RL.pd (r : RL) : PyData := .tuple [r.s.pd, r.t.pd, .int r.a]
theorem PX.pdOf (p : PX) : pdOf p.pv = some p.pd := rfl
theorem RL.pdOf (r : RL) : pdOf r.pv = some r.pd := rfl
def RL.sd (r : RL) : PV := .tup [r.s.pv, r.t.pv]
def RL.sdd (r : RL) : PyData := .tuple [r.s.pd, r.t.pd]
theorem RL.sdOf (r : RL) : PyI.pdOf r.sd = some r.sdd := rfl
/-- the same two parts -/
def RL.same (r q : RL) : Bool := decide (r.s.l = q.s.l ∧ r.s.b = q.s.b ∧ r.t.l = q.t.l ∧ r.t.b = q.t.b)
def RL.lt (r q : RL) : Bool := decide (r.s.l < q.s.l ∨ (r.s.l = q.s.l ∧ (r.s.b < q.s.b ∨ (r.s.b = q.s.b ∧ (r.t.l < q.t.l ∨ (r.t.l = q.t.l ∧ (r.t.b < q.t.b ∨ (r.t.b = q.t.b ∧ r.a < q.a))))))))
theorem PX.eqv (p q : PX) : PyData.eqv p.pd q.pd = decide (p.l = q.l ∧ p.b = q.b) := by
  simp only [PX.pd, PyData.eqv, PyData.eqvAll]
  by_cases h1 : p.l = q.l <;> by_cases h2 : p.b = q.b <;> simp [h1, h2] <;> omega
theorem RL.eqvS (r q : RL) : PyData.eqv r.sdd q.sdd = r.same q := by
  simp only [RL.sdd, PyData.eqv, PyData.eqvAll, PX.eqv, RL.same]
  by_cases h1 : r.s.l = q.s.l ∧ r.s.b = q.s.b <;> by_cases h2 : r.t.l = q.t.l ∧ r.t.b = q.t.b <;> simp [h1, h2, ← and_assoc] <;> omega
theorem PX.lt (p q : PX) : PySem.W.dataLt p.pd q.pd = decide (p.l < q.l ∨ (p.l = q.l ∧ p.b < q.b)) := by
  unfold PX.pd
  rw [PySem.W.dataLt_ii]
  congr 1
  apply propext
  omega
theorem alikeP (p q : PX) : PySem.W.alike p.pd q.pd = true := by simp [PX.pd, PySem.W.alike, PySem.W.alikeAll]
theorem alikeR (r q : RL) : PySem.W.alike r.pd q.pd = true := by simp [RL.pd, PySem.W.alike, PySem.W.alikeAll, alikeP]
theorem RL.ltD (r q : RL) : PySem.W.dataLt r.pd q.pd = r.lt q := by
  unfold RL.pd
  rw [PySem.W.dataLt_tuple, PySem.W.dataLt_cons (alikeP _ _), PySem.W.dataLt_cons (alikeP _ _), PySem.W.dataLt_cons (by simp [PySem.W.alike])]
  have e : PyProof.Rows.lexLt PyProof.Rows.itemOrd (PySem.W.keyToksAll []) (PySem.W.keyToksAll []) = false := PyProof.Rows.lex_irrefl _
  rw [e, PX.eqv, PX.eqv, PX.lt, PX.lt, PySem.W.dataLt_int]
  unfold RL.lt
  simp only [PyData.eqv, decide_eq_true_eq, beq_iff_eq, Int.ofNat_inj]
  by_cases h1 : r.s.l = q.s.l ∧ r.s.b = q.s.b
  · rw [if_pos h1]
    by_cases h2 : r.t.l = q.t.l ∧ r.t.b = q.t.b
    · rw [if_pos h2]
      by_cases h3 : r.a = q.a
      · rw [if_pos h3]; symm; exact decide_eq_false (by omega)
      · rw [if_neg h3]; congr 1; apply propext; omega
    · rw [if_neg h2]; congr 1; apply propext; omega
  · rw [if_neg h1]; congr 1; apply propext; omega
/-! ### in a list of parts -/
theorem pds_map {α : Type} {f : α → PV} {g : α → PyData} (h : ∀ x, pdOf (f x) = some (g x)) : ∀ l : List α, pdsOf (l.map f) = some (l.map g)
  | [] => rfl
  | x :: l => by rw [List.map_cons]; unfold pdsOf; rw [h x, pds_map h l]; rfl
theorem depthA {α : Type} {g : α → PyData} {n : Nat} (h : ∀ x, (g x).depth ≤ n) : ∀ l : List α, PyData.depthAll (l.map g) ≤ n
  | [] => Nat.zero_le _
  | x :: l => by rw [List.map_cons]; unfold PyData.depthAll; have := h x; have := depthA h l; omega
theorem RL.dep (r : RL) : r.pd.depth = 2 := by simp [RL.pd, PX.pd, PyData.depth, PyData.depthAll]
theorem RL.depS (r : RL) : r.sdd.depth = 2 := by simp [RL.sdd, PX.pd, PyData.depth, PyData.depthAll]
theorem in_sides {r : RL} {rs : List RL} {n : Nat} {st : Store} (h : st[n]? = some (.lst (rs.map RL.sd))) : opInB true r.sd (.obj n) st = .ok (.bl (!rs.any fun q => q.same r)) st := by
  have p1 : pdAt st r.sd = some r.sdd := rfl
  have p2 : pdAt st (.obj n) = some (.list (rs.map RL.sdd)) := by simp only [pdAt, h]; rw [pds_map RL.sdOf]; rfl
  have hd : min (PyData.depthAll (rs.map RL.sdd)) r.sdd.depth ≤ 62 := by rw [RL.depS]; omega
  have key : opInB true r.sd (.obj n) st = (match pdAt st r.sd, pdAt st (.obj n) with
    | some p, some (.list qs) => if min (PyData.depthAll qs) p.depth ≤ 62 then Res.ok (PV.bl (if true then !qs.any (fun y => PyData.eqv y p) else qs.any (fun y => PyData.eqv y p))) st else .no
    | some p, some (.tuple qs) => if min (PyData.depthAll qs) p.depth ≤ 62 then .ok (.bl (if true then !qs.any (fun y => PyData.eqv y p) else qs.any (fun y => PyData.eqv y p))) st else .no
    | _, _ => .no) := rfl
  rw [key, p1, p2]
  simp only [if_pos hd, if_true, List.any_map]
  congr 3
  congr 1
  funext q
  exact RL.eqvS q r
/-! ### sorted -/
def RL.le (r q : RL) : Bool := !q.lt r
theorem sort_rules {rs : List RL} {st : Store} : sortP (rs.map RL.pv) st = .ok ((rs.mergeSort RL.le).map RL.pv) st := by
  unfold sortP
  rw [pds_map RL.pdOf]
  have c : (alikesB (rs.map RL.pd) && sortableB (rs.map RL.pd) && (rs.map RL.pd).all fun d => decide (d.depth ≤ 62)) = true := by
    rw [Bool.and_eq_true, Bool.and_eq_true]
    refine ⟨⟨?_, ?_⟩, ?_⟩
    · unfold alikesB
      rw [List.all_eq_true]
      intro d hd
      rw [List.all_eq_true]
      intro e he
      obtain ⟨r, _, rfl⟩ := List.mem_map.mp hd
      obtain ⟨q, _, rfl⟩ := List.mem_map.mp he
      exact alikeR r q
    · unfold sortableB
      rw [Bool.or_eq_true]
      left
      rw [List.all_eq_true]
      intro d hd
      obtain ⟨r, _, rfl⟩ := List.mem_map.mp hd
      rfl
    · rw [List.all_eq_true]
      intro d hd
      obtain ⟨r, _, rfl⟩ := List.mem_map.mp hd
      exact decide_eq_true (by rw [RL.dep]; omega)
  simp only [c, if_true]
  congr 1
  have z : (rs.map RL.pv).zip (rs.map RL.pd) = rs.map fun r => (r.pv, r.pd) := by
    rw [List.zip_map']
  rw [z, ← List.map_mergeSort (r := RL.le) (s := PySem.W.dataLe false (fun t : PV × PyData => t.2)) (f := fun r : RL => (r.pv, r.pd)) (fun a _ b _ => ?_), List.map_map]
  · rfl
  · show RL.le a b = !PySem.W.dataLt b.pd a.pd
    rw [RL.ltD]; rfl
theorem le_trans' (a b c : RL) : a.le b = true → b.le c = true → a.le c = true := by
  unfold RL.le RL.lt
  simp only [Bool.not_eq_true', decide_eq_false_iff_not]
  omega
theorem le_total' (a b : RL) : (a.le b || b.le a) = true := by
  unfold RL.le RL.lt
  rw [Bool.or_eq_true]
  simp only [Bool.not_eq_true', decide_eq_false_iff_not]
  omega
theorem le_lt {a b : RL} (h : a.le b = true) (hs : a.same b = false) : a.lt b = true := by
  unfold RL.le at h
  unfold RL.lt at h ⊢
  unfold RL.same at hs
  simp only [Bool.not_eq_true', decide_eq_false_iff_not] at h hs
  exact decide_eq_true (by omega)
/-- an edition's rules -/
structure EdOk (bits : Nat) (rs : List RL) : Prop where
  rule : ∀ r ∈ rs, r.s.l ≤ bits ∧ r.s.b < 2 ^ r.s.l ∧ r.t.l ≤ bits ∧ r.t.b < 2 ^ r.t.l ∧ r.a ≤ 9
  len : rs.length ≤ 24
  up : rs.Pairwise fun a b => a.lt b = true ∧ a.same b = false
def edPV (bits : Nat) (rs : List RL) : PV := .tup [.int bits, .tup (rs.map RL.pv)]
theorem ed_bound (n bits : Nat) (rs : List RL) : (edPV bits rs).bound n = true := by
  have := bound_encT (RL.bound n) rs
  unfold encT PV.bound at this
  simp [edPV, PV.bound, PV.bounds, this]
theorem ed_sorted {bits : Nat} {rs : List RL} (h : ∀ r ∈ rs, r.s.l ≤ bits ∧ r.s.b < 2 ^ r.s.l ∧ r.t.l ≤ bits ∧ r.t.b < 2 ^ r.t.l ∧ r.a ≤ 9) (hl : rs.length ≤ 24) (hd : rs.Pairwise fun a b => a.same b = false) : EdOk bits (rs.mergeSort RL.le) where
  rule := fun r hr => h r (List.mem_mergeSort.mp hr)
  len := by rw [List.length_mergeSort]; exact hl
  up := by
    have h1 := List.pairwise_mergeSort (le := RL.le) le_trans' le_total' rs
    have h2 : (rs.mergeSort RL.le).Pairwise fun a b => a.same b = false := by
      refine (List.Perm.pairwise_iff ?_ (List.mergeSort_perm rs RL.le)).mpr hd
      intro a b hab
      unfold RL.same at hab ⊢
      simp only [decide_eq_false_iff_not] at hab ⊢
      omega
    exact (h1.and h2).imp fun ⟨x, y⟩ => ⟨le_lt x y, y⟩
theorem px_ok {c bits : Nat} : (lawPX c bits).l ≤ bits ∧ (lawPX c bits).b < 2 ^ (lawPX c bits).l := ⟨by have := Nat.mod_lt c (show 0 < bits + 1 by omega); show c % (bits + 1) ≤ bits; omega, Nat.mod_lt _ (Nat.pow_pos (by decide))⟩

theorem rowAt_nat (vs : List Nat) (j : Int) : ∃ c : Nat, rowAt vs j = c ∧ c = vs.getD j.toNat 0 := ⟨_, rfl, rfl⟩
/-- the drawn rule k -/
def lawRL (vs : List Nat) (at' : Nat) (bits answers k : Nat) : RL := ⟨lawPX (vs.getD (at' + 1 + 3 * k) 0) bits, lawPX (vs.getD (at' + 2 + 3 * k) 0) bits, vs.getD (at' + 3 + 3 * k) 0 % (answers + 1)⟩
/-- .. those that are new -/
def newRL : List RL → List RL → List RL
  | acc, [] => acc
  | acc, r :: l => if (acc.any fun q => q.same r) = true then newRL acc l else newRL (acc ++ [r]) l
theorem new_ok {P : RL → Prop} : ∀ (l acc : List RL), (∀ r ∈ acc, P r) → (∀ r ∈ l, P r) → acc.Pairwise (fun a b => a.same b = false) → (∀ r ∈ newRL acc l, P r) ∧ (newRL acc l).length ≤ acc.length + l.length ∧ (newRL acc l).Pairwise fun a b => a.same b = false
  | [], acc, h, _, hp => ⟨h, by simp [newRL], hp⟩
  | r :: l, acc, h, h2, hp => by
    unfold newRL
    split
    · obtain ⟨a, b, c⟩ := new_ok l acc h (fun q hq => h2 q (List.mem_cons_of_mem _ hq)) hp
      exact ⟨a, by simp; omega, c⟩
    · rename_i hn
      obtain ⟨a, b, c⟩ := new_ok l (acc ++ [r]) (fun q hq => by
        rcases List.mem_append.mp hq with hq | hq
        · exact h q hq
        · rw [List.mem_singleton.mp hq]; exact h2 r List.mem_cons_self) (fun q hq => h2 q (List.mem_cons_of_mem _ hq)) (List.pairwise_append.mpr ⟨hp, by simp, fun q hq z hz => by
          rw [List.mem_singleton.mp hz]
          cases e : q.same r with
          | false => rfl
          | true => exact absurd (List.any_eq_true.mpr ⟨q, hq, e⟩) hn⟩)
      exact ⟨a, by simp at b ⊢; omega, c⟩
theorem newRL_snoc : ∀ (l acc : List RL) (r : RL), newRL acc (l ++ [r]) = if ((newRL acc l).any fun q => q.same r) = true then newRL acc l else newRL acc l ++ [r]
  | [], acc, r => by
    show (if _ then _ else _) = _
    rfl
  | q :: l, acc, r => by
    rw [List.cons_append]
    unfold newRL
    split <;> exact newRL_snoc l _ r
theorem getD_nat {vs : List Nat} {k i : Nat} {st : Store} (h : st[k]? = some (rowOb vs)) (h1 : i < vs.length) : getItemP (.obj k) (.int (i : Nat)) st = .ok (.int (vs.getD i 0 : Nat)) st := row_get h (by omega) (by omega)
theorem sd_add {r : RL} {st : Store} : opAdd r.sd (.tup [.int r.a]) st = .ok r.pv st := add_tt (a := [r.s.pv, r.t.pv]) (b := [.int r.a]) (show 3 ≤ sizeLine by decide)
theorem law_edition_ok [F0 : Fn D ("_law_power" : Str) 1 3 b_law_power] [F1 : Fn D ("_law_prefix" : Str) 2 3 b_law_prefix] [F : Fn D ("_law_edition" : Str) 5 9 b_law_edition] {n k : Nat} {vs : List Nat} {at' bits most answers : Nat} {st : Store} (hk : st[k]? = some (rowOb vs)) (hm : most ≤ 24) (hs : at' + 3 + 3 * most ≤ vs.length) (hb : bits ≤ 100) (ha : answers ≤ 9) :
    ∃ rs, EdOk bits rs ∧ D (n + 3) ("_law_edition" : Str) [.obj k, .int at', .int bits, .int most, .int answers] st = .ok (edPV bits rs) st := by
  generalize hcnt : vs.getD at' 0 % (most + 1) = cnt
  have hcl : cnt ≤ most := by rw [← hcnt]; have := Nat.mod_lt (vs.getD at' 0) (show 0 < most + 1 by omega); omega
  obtain ⟨p1, p2, p3⟩ := new_ok (P := fun r => r.s.l ≤ bits ∧ r.s.b < 2 ^ r.s.l ∧ r.t.l ≤ bits ∧ r.t.b < 2 ^ r.t.l ∧ r.a ≤ 9) ((List.range cnt).map (lawRL vs at' bits answers)) [] (fun r hr => by cases hr) (fun r hr => by
    obtain ⟨i, _, rfl⟩ := List.mem_map.mp hr
    have e1 := px_ok (c := vs.getD (at' + 1 + 3 * i) 0) (bits := bits)
    have e2 := px_ok (c := vs.getD (at' + 2 + 3 * i) 0) (bits := bits)
    have e3 := Nat.mod_lt (vs.getD (at' + 3 + 3 * i) 0) (show 0 < answers + 1 by omega)
    exact ⟨e1.1, e1.2, e2.1, e2.2, show _ % (answers + 1) ≤ 9 by omega⟩) .nil
  refine ⟨_, ed_sorted p1 (by simp at p2; omega) p3, ?_⟩
  refine fn_pure [some (.obj k), some (.int at'), some (.int bits), some (.int most), some (.int answers), none, none, none, none] (by rfl) (ed_bound _ _ _) ?_
  unfold b_law_edition
  refine P_new ?_
  refine P_new ?_
  have hk2 := getO (getO hk [.lst []]) [.lst []]
  have er : ((vs.getD at' 0 : Nat) : Int) % ((most : Int) + 1) = (cnt : Nat) := by rw [← hcnt]; push_cast; rfl
  refine P_sFor (range_ok (modI (int1 ((bin_ok (var_ok rfl) (var_ok rfl)).trans (getD_nat hk2 (by omega)))) (addI (var_ok rfl) cst rfl) (by omega) er) (by omega)) ?_
  rw [Int.toNat_natCast]
  refine P_forL (fun i : Nat => PV.int (i : Nat)) (fun pre env st' => (∃ x7 x8, env = [some (.obj k), some (.int at'), some (.int bits), some (.int most), some (.int answers), some (.obj st.length), some (.obj (st.length + 1)), x7, x8]) ∧ st' = st ++ [.lst ((newRL [] (pre.map (lawRL vs at' bits answers))).map RL.pv), .lst ((newRL [] (pre.map (lawRL vs at' bits answers))).map RL.sd)]) (List.range cnt) ⟨⟨none, none, by simp⟩, by simp [newRL]⟩ ?_ ?_
  · rintro pre i post env st' hl ⟨⟨x7, x8, rfl⟩, rfl⟩
    have hlen := congrArg List.length hl
    simp at hlen
    have hi : i < cnt := by have : i ∈ List.range cnt := by rw [hl]; simp
                            exact List.mem_range.mp this
    refine ⟨_, rfl, ?_⟩
    generalize hr : lawRL vs at' bits answers i = r
    have hnew := newRL_snoc (pre.map (lawRL vs at' bits answers)) [] r
    have hmap : (pre ++ [i]).map (lawRL vs at' bits answers) = pre.map (lawRL vs at' bits answers) ++ [r] := by simp [hr]
    rw [hmap, hnew]
    obtain ⟨_, q2, _⟩ := new_ok (P := fun _ => True) (pre.map (lawRL vs at' bits answers)) [] (fun _ _ => trivial) (fun _ _ => trivial) .nil
    generalize newRL [] (pre.map (lawRL vs at' bits answers)) = acc at q2
    generalize hS : st ++ [Ob.lst (acc.map RL.pv), .lst (acc.map RL.sd)] = S
    have hkS : S[k]? = some (rowOb vs) := by rw [← hS]; exact getO hk _
    have hu : S[st.length + 1]? = some (.lst (acc.map RL.sd)) := by rw [← hS, List.getElem?_append_right (by omega)]; simp
    have a1 : ((at' : Int) + 1 + 3 * (i : Int)) = ((at' + 1 + 3 * i : Nat) : Int) := by omega
    have a2 : ((at' : Int) + 2 + 3 * (i : Int)) = ((at' + 2 + 3 * i : Nat) : Int) := by omega
    have a3 : ((at' : Int) + 3 + 3 * (i : Int)) = ((at' + 3 + 3 * i : Nat) : Int) := by omega
    have g1 := getD_nat (i := at' + 1 + 3 * i) hkS (by omega)
    have g2 := getD_nat (i := at' + 2 + 3 * i) hkS (by omega)
    have g3 := getD_nat (i := at' + 3 + 3 * i) hkS (by omega)
    have x1 := law_prefix_ok (D := D) (n := n) (c := vs.getD (at' + 1 + 3 * i) 0) (bits := bits) (st := S) hb
    have x2 := law_prefix_ok (D := D) (n := n) (c := vs.getD (at' + 2 + 3 * i) 0) (bits := bits) (st := S) hb
    have c3 : L2.CMul 3 (i : Int) := .inl ⟨by decide, by decide⟩
    have hz2 : (2 : Nat) ≤ sizeLine := by decide
    have hz1 : (1 : Nat) ≤ sizeLine := by decide
    have es : PV.tup [(lawPX (vs.getD (at' + 1 + 3 * i) 0) bits).pv, (lawPX (vs.getD (at' + 2 + 3 * i) 0) bits).pv] = r.sd := by rw [← hr]; rfl
    refine P_asg (d := r.sd) (st' := S) ?_ ?_
    · rw [← es]
      refine tup_ok (args2 (call_ok' (args2 ((bin_ok (var_ok rfl) (addI (addI (var_ok rfl) cst rfl) (mulI cst (var_ok rfl) c3 rfl) a1)).trans g1) (var_ok rfl)) rfl x1) (call_ok' (args2 ((bin_ok (var_ok rfl) (addI (addI (var_ok rfl) cst rfl) (mulI cst (var_ok rfl) c3 rfl) a2)).trans g2) (var_ok rfl)) rfl x2)) hz2
    have tin := in_sides (r := r) hu
    have test : (cTest (cBin (opInB true) (cVar 8) (cVar 6))) [some (.obj k), some (.int at'), some (.int bits), some (.int most), some (.int answers), some (.obj st.length), some (.obj (st.length + 1)), some (.int i), some r.sd] S = .ok (!acc.any fun q => q.same r) S := test_ok ((bin_ok (var_ok rfl) (var_ok rfl)).trans tin)
    cases hin : acc.any fun q => q.same r with
    | true =>
      rw [hin] at test
      refine P_if0 test (P_next ⟨_, .inl rfl, gd_none, ⟨_, _, rfl⟩, ?_⟩)
      rw [if_pos rfl, hS]
    | false =>
      rw [hin] at test
      refine P_ift test ?_
      rw [if_neg Bool.false_ne_true]
      have hz : acc.length < 16777216 := by simp at q2; omega
      have l1 : st.length + 1 = (st ++ [Ob.lst (acc.map RL.pv)]).length := by simp
      have ap1 := app_L (st := st ++ [Ob.lst (acc.map RL.pv)]) (n := st.length + 1) (xs := acc.map RL.sd) (x := r.sd) (l := []) (by simp) (by simpa using hz)
      have e1 : st ++ [Ob.lst (acc.map RL.pv)] ++ [.lst (acc.map RL.sd)] = S := by rw [← hS]; simp
      have e2 : st ++ [Ob.lst (acc.map RL.pv)] ++ [.lst (acc.map RL.sd ++ [r.sd])] = st ++ .lst (acc.map RL.pv) :: [.lst (acc.map RL.sd ++ [r.sd])] := by simp
      rw [e1, e2] at ap1
      refine P_drop ((met_ok (var_ok rfl) hu (args1 (var_ok rfl))).trans ap1) ?_
      have ap2 := app_L (st := st) (n := st.length) (xs := acc.map RL.pv) (x := r.pv) (l := [.lst (acc.map RL.sd ++ [r.sd])]) rfl (by simpa using hz)
      generalize hS2 : st ++ .lst (acc.map RL.pv) :: [.lst (acc.map RL.sd ++ [r.sd])] = S2 at ap2
      have hu2 : S2[st.length]? = some (.lst (acc.map RL.pv)) := by rw [← hS2]; exact getL rfl
      have hkS2 : S2[k]? = some (rowOb vs) := by rw [← hS2]; exact getO hk _
      have g3' := getD_nat (i := at' + 3 + 3 * i) hkS2 (by omega)
      have em : ((vs.getD (at' + 3 + 3 * i) 0 : Nat) : Int) % ((answers : Int) + 1) = (r.a : Nat) := by rw [← hr]; show _ = ((_ % (answers + 1) : Nat) : Int); push_cast; rfl
      have ra : (cBin opAdd (cVar 8) (cTup (cArgs [cBin opMod (cApp bInt2 (cArgs [cBin getItemP (cVar 0) (cBin opAdd (cBin opAdd (cVar 1) (cC (.int (3)))) (cBin opMul (cC (.int (3))) (cVar 7)))])) (cBin opAdd (cVar 4) (cC (.int (1))))]))) [some (.obj k), some (.int at'), some (.int bits), some (.int most), some (.int answers), some (.obj st.length), some (.obj (st.length + 1)), some (.int i), some r.sd] S2 = .ok r.pv S2 :=
        (bin_ok (var_ok rfl) (tup_ok (args1 (modI (int1 ((bin_ok (var_ok rfl) (addI (addI (var_ok rfl) cst rfl) (mulI cst (var_ok rfl) c3 rfl) a3)).trans g3')) (addI (var_ok rfl) cst rfl) (by omega) em)) hz1)).trans sd_add
      refine P_drop ((met_ok (var_ok rfl) hu2 (args1 ra)).trans ap2) (P_next (P_next ⟨_, .inl rfl, gd_none, ⟨_, _, rfl⟩, ?_⟩))
      simp
  · rintro env st' ⟨⟨x7, x8, rfl⟩, rfl⟩
    generalize newRL [] ((List.range cnt).map (lawRL vs at' bits answers)) = acc
    generalize hS : st ++ [Ob.lst (acc.map RL.pv), .lst (acc.map RL.sd)] = S
    have hu : S[st.length]? = some (.lst (acc.map RL.pv)) := by rw [← hS]; exact getL rfl
    have so : (cSorted (cVar 5)) [some (.obj k), some (.int at'), some (.int bits), some (.int most), some (.int answers), some (.obj st.length), some (.obj (st.length + 1)), x7, x8] S = .ok ((acc.mergeSort RL.le).map RL.pv) S := by
      unfold cSorted
      rw [bind_ok (var_ok rfl), bind_ok (show lstItems (.obj st.length) S = .ok (acc.map RL.pv) S by unfold lstItems; simp only [hu])]
      exact sort_rules
    refine P_ret (tup_ok (args2 (var_ok rfl) ((app_ok so).trans rfl)) (show 2 ≤ sizeLine by decide)) ⟨rfl, _, hS.symm⟩

def wideRL (vs : List Nat) (at' bits k : Nat) : RL := ⟨⟨bits, k⟩, lawPX (vs.getD (at' + 1 + k) 0) bits, vs.getD (at' + 1 + k) 0 / 17 % 10⟩
theorem wide_ok {vs : List Nat} {at' bits : Nat} (hb : 5 ≤ bits) : EdOk bits ((List.range 24).map (wideRL vs at' bits)) where
  rule := fun r hr => by
    obtain ⟨k, hk, rfl⟩ := List.mem_map.mp hr
    have hk' := List.mem_range.mp hk
    have h32 : 2 ^ 5 ≤ 2 ^ bits := Nat.pow_le_pow_right (by decide) hb
    have e1 := px_ok (c := vs.getD (at' + 1 + k) 0) (bits := bits)
    exact ⟨Nat.le_refl _, show k < 2 ^ bits by omega, e1.1, e1.2, show _ / 17 % 10 ≤ 9 by omega⟩
  len := by simp
  up := by
    refine List.Pairwise.map _ (R := fun a b => a < b) (fun a b hab => ?_) List.pairwise_lt_range
    refine ⟨?_, ?_⟩
    · exact decide_eq_true (.inr ⟨rfl, .inl hab⟩)
    · exact decide_eq_false fun h => by
        have h : a = b := h.2.1
        omega
theorem law_wide_edition_ok [F0 : Fn D ("_law_power" : Str) 1 3 b_law_power] [F1 : Fn D ("_law_prefix" : Str) 2 3 b_law_prefix] [F2 : Fn D ("_law_edition" : Str) 5 9 b_law_edition] [F : Fn D ("_law_wide_edition" : Str) 3 7 b_law_wide_edition_k91] {n k : Nat} {vs : List Nat} {at' bits : Nat} {st : Store} (hk : st[k]? = some (rowOb vs)) (hs : at' + 30 ≤ vs.length) (hb : bits ≤ 100) (hw : vs.getD (at' + 28) 0 % 6 = 2 → 5 ≤ bits) :
    ∃ rs, EdOk bits rs ∧ D (n + 4) ("_law_wide_edition" : Str) [.obj k, .int at', .int bits] st = .ok (edPV bits rs) st := by
  obtain ⟨rs, h1, h2⟩ := law_edition_ok (D := D) (n := n) (at' := at') (bits := bits) (most := 9) (answers := 9) hk (by omega) (by omega) hb (by omega)
  have g28 := getD_nat (i := at' + 28) hk (by omega)
  have a28 : ((at' : Int) + 28) = ((at' + 28 : Nat) : Int) := by omega
  have em : ((vs.getD (at' + 28) 0 : Nat) : Int) % 6 = ((vs.getD (at' + 28) 0 % 6 : Nat) : Int) := by push_cast; rfl
  have step1 : (sAsg (cCall 5 (D (n + 3) ("_law_edition" : Str)) [] (cArgs [cVar 0, cVar 1, cVar 2, cC (.int (9)), cC (.int (9))])) (.name 3)) [some (.obj k), some (.int at'), some (.int bits), none, none, none, none] st = .ok (.nx [some (.obj k), some (.int at'), some (.int bits), some (edPV bits rs), none, none, none]) st :=
    asg_name (call_ok' (args_cons_ok (var_ok rfl) (args_cons_ok (var_ok rfl) (args_cons_ok (var_ok rfl) (args2 cst cst)))) rfl h2)
  have test : (cTest (cBin (opEqB true) (cBin opMod (cBin getItemP (cVar 0) (cBin opAdd (cVar 1) (cC (.int (28))))) (cC (.int (6)))) (cC (.int (2))))) [some (.obj k), some (.int at'), some (.int bits), some (edPV bits rs), none, none, none] st = .ok (!(((vs.getD (at' + 28) 0 % 6 : Nat) : Int) == 2)) st :=
    test_ok (eqI (modI ((bin_ok (var_ok rfl) (addI (var_ok rfl) cst a28)).trans g28) cst (by omega) em) cst rfl)
  by_cases h : vs.getD (at' + 28) 0 % 6 = 2
  · have hb5 := hw h
    refine ⟨_, wide_ok (vs := vs) (at' := at') hb5, ?_⟩
    refine fn_pure [some (.obj k), some (.int at'), some (.int bits), none, none, none, none] (by rfl) (ed_bound _ _ _) ?_
    unfold b_law_wide_edition_k91
    refine P_seq (P_of step1 ?_)
    rw [h] at test
    refine P_if0 test (P_new ?_)
    refine P_sFor (range_ok (j := 24) cst (by omega)) ?_
    refine P_forL (fun i : Nat => PV.int (i : Nat)) (fun pre env st' => (∃ x5 x6, env = [some (.obj k), some (.int at'), some (.int bits), some (edPV bits rs), some (.obj st.length), x5, x6]) ∧ st' = st ++ [.lst ((pre.map (wideRL vs at' bits)).map RL.pv)]) (List.range 24) ⟨⟨_, _, rfl⟩, rfl⟩ ?_ ?_
    · rintro pre i post env st' hl ⟨⟨x5, x6, rfl⟩, rfl⟩
      have hlen := congrArg List.length hl
      simp at hlen
      have hi : i < 24 := by have : i ∈ List.range 24 := by rw [hl]; simp
                             exact List.mem_range.mp this
      refine ⟨_, rfl, ?_⟩
      generalize hE : (pre.map (wideRL vs at' bits)).map RL.pv = E
      have hEl : E.length = pre.length := by rw [← hE]; simp
      have hkS := getO hk [.lst E]
      have a1 : ((at' : Int) + 1 + (i : Int)) = ((at' + 1 + i : Nat) : Int) := by omega
      have g1 := getD_nat (i := at' + 1 + i) hkS (by omega)
      have x1 := law_prefix_ok (D := D) (n := n + 1) (c := vs.getD (at' + 1 + i) 0) (bits := bits) (st := st ++ [.lst E]) hb
      have ed : ((vs.getD (at' + 1 + i) 0 : Nat) : Int) / 17 = ((vs.getD (at' + 1 + i) 0 / 17 : Nat) : Int) := by push_cast; rfl
      have ee : ((vs.getD (at' + 1 + i) 0 / 17 : Nat) : Int) % 10 = ((wideRL vs at' bits i).a : Nat) := by show _ = ((vs.getD (at' + 1 + i) 0 / 17 % 10 : Nat) : Int); push_cast; rfl
      refine P_asg (int1 ((bin_ok (var_ok rfl) (addI (addI (var_ok rfl) cst rfl) (var_ok rfl) a1)).trans g1)) ?_
      have ap := app_L (st := st) (n := st.length) (xs := E) (x := (wideRL vs at' bits i).pv) (l := []) rfl (by omega)
      refine P_drop ((met_ok (var_ok rfl) (getL rfl) (args1 (tup_ok (args3 (tup_ok (args2 (var_ok rfl) (var_ok rfl)) (show 2 ≤ sizeLine by decide)) (call_ok' (args2 (var_ok rfl) (var_ok rfl)) rfl x1) (modI (divI (var_ok rfl) cst (by omega) ed) cst (by omega) ee)) (show 3 ≤ sizeLine by decide)))).trans ap) (P_next ⟨_, .inl rfl, gd_none, ⟨_, _, rfl⟩, ?_⟩)
      rw [← hE]; simp
    · rintro env st' ⟨⟨x5, x6, rfl⟩, rfl⟩
      exact P_ret (tup_ok (args2 (var_ok rfl) ((app_ok (args1 (var_ok rfl))).trans (tup_L rfl))) (show 2 ≤ sizeLine by decide)) ⟨rfl, _, rfl⟩
  · refine ⟨rs, h1, ?_⟩
    refine fn_pure [some (.obj k), some (.int at'), some (.int bits), none, none, none, none] (by rfl) (ed_bound _ _ _) ?_
    unfold b_law_wide_edition_k91
    refine P_seq (P_of step1 ?_)
    have : (!(((vs.getD (at' + 28) 0 % 6 : Nat) : Int) == 2)) = true := by
      rw [Bool.not_eq_true']
      simp only [beq_eq_false_iff_ne]
      omega
    rw [this] at test
    exact P_ift test (P_ret (var_ok rfl) ⟨rfl, [], by simp⟩)
end PyI

/-! PyS5: tables and editions written as texts. -/
namespace PyI
open PySem Sh L2 TL
variable {D : Prg}
/-! ### strings put together -/
theorem cl_join0 : ∀ ss : List Str, cl (Str.join ("" : Str) ss) = ss.flatMap cl
  | [] => rfl
  | [a] => by show cl a = _; simp
  | a :: b :: r => by
    rw [join_cons, cl_join0 (b :: r)]
    show cl a ++ [] ++ _ = _
    simp
def cat (ss : List Str) : Str := ss.foldl (· ++ ·) Str.empty
theorem cl_foldl : ∀ (ss : List Str) (a : Str), cl (ss.foldl (· ++ ·) a) = cl a ++ ss.flatMap cl
  | [], a => by simp
  | s :: ss, a => by rw [List.foldl_cons, cl_foldl ss, cl_append, List.flatMap_cons, List.append_assoc]
theorem cl_cat (ss : List Str) : cl (cat ss) = ss.flatMap cl := by
  unfold cat
  rw [cl_foldl]
  rfl
theorem js_ok {env : EnvP} {st : Store} {fs : List Dn} {ss : List Str} (h : All2 (fun (f : Dn) s => f env st = .ok (.str s) st) fs ss) : ∀ (acc : Str), acc.length + (ss.map (·.length)).sum ≤ 16777216 → jsP fs acc env st = .ok (ss.foldl (· ++ ·) acc) st := by
  induction h with
  | nil => intro acc _; rfl
  | @cons f s fs ss h1 _ ih =>
    intro acc hl
    simp only [List.map_cons, List.sum_cons] at hl
    have e : (acc ++ s).length = acc.length + s.length := len_append _ _
    rw [run_js, h1]
    simp only
    rw [if_pos (show (acc ++ s).length ≤ sizeLine by show _ ≤ 16777216; omega), ih (acc ++ s) (by omega), List.foldl_cons]
theorem join_strs {env : EnvP} {st : Store} {fs : List Dn} {ss : List Str} (h : All2 (fun (f : Dn) s => f env st = .ok (.str s) st) fs ss) (hl : (ss.map (·.length)).sum ≤ 16777216) : cJoin fs env st = .ok (.str (cat ss)) st := by
  rw [run_join, js_ok h Str.empty (by have : Str.empty.length = 0 := rfl; omega)]
  rfl
theorem cat_row4 (a b c d : Str) : cat [a, " ", b, " ", c, " ", d] = row [a, b, c, d] := str_eq (by
  rw [cl_cat]; unfold row; rw [join_cons, join_cons, join_cons]; simp [Str.join])
theorem cat_row3 (a b c : Str) : cat [a, " ", b, " ", c] = row [a, b, c] := str_eq (by
  rw [cl_cat]; unfold row; rw [join_cons, join_cons]; simp [Str.join])
theorem cat_row2 (a b : Str) : cat [a, " ", b] = row [a, b] := str_eq (by
  rw [cl_cat]; unfold row; rw [join_cons]; simp [Str.join])
theorem row_len_le {m : Nat} {ws : List Str} (h : ∀ w ∈ ws, w.length ≤ m) : (row ws).length ≤ (m + 1) * ws.length := by
  refine Nat.le_trans (StrLaws.join_length_le _ _) ?_
  have : (" " : Str).length = 1 := by decide +kernel
  rw [this]
  induction ws with
  | nil => simp
  | cons a r ih =>
    have h1 := h a List.mem_cons_self
    have h2 := ih fun x hx => h x (List.mem_cons_of_mem _ hx)
    simp only [List.map_cons, List.sum_cons, List.length_cons, Nat.mul_add] at h2 ⊢
    omega
theorem joinL_row {ws : List Str} {st : Store} (h : (ws.map (·.length)).sum + ws.length ≤ 16777216) : mJoinL (.str (" " : Str)) (ws.map PV.str) st = .ok (.str (row ws)) st := by
  have e : (" " : Str).length = 1 := by decide +kernel
  exact joinP_ok (by rw [e]; omega)
/-! ### words for truth values -/
def yesS (b : Bool) : Str := if b then "yes" else "no"
theorem truth_text_ok [F : Fn D ("truth_text" : Str) 1 1 b_truth_text] {n : Nat} {b : Bool} {st : Store} : D (n + 1) ("truth_text" : Str) [.bl b] st = .ok (.str (yesS b)) st := by
  refine fn_pure [some (.bl b)] (by rfl) rfl ?_
  unfold b_truth_text yesS
  cases b <;> simp
theorem law_yes_ok [F : Fn D ("_law_yes" : Str) 1 1 b_law_yes] {n : Nat} {b : Bool} {st : Store} : D (n + 1) ("_law_yes" : Str) [.bl b] st = .ok (.str (yesS b)) st := by
  refine fn_pure [some (.bl b)] (by rfl) rfl ?_
  unfold b_law_yes yesS
  cases b <;> simp
theorem yes_len (b : Bool) : (yesS b).length ≤ 3 := by cases b <;> decide +kernel
/-! ### windows -/
def wdeeds (k : Nat) : List Str := if k < 3 then ["none", "move", "bare", "wipe"] else if k = 3 then ["none", "mark", "wipe"] else ["none", "wipe"]
structure WE.Ok (e : WE) (n k : Nat) : Prop where
  d : e.d ∈ wdeeds k
  s0 : 0 ≤ e.s
  s1 : e.s < n
theorem wdeed_len {k : Nat} {d : Str} (h : d ∈ wdeeds k) : d.length = 4 := by
  unfold wdeeds at h
  split at h
  · simp only [List.mem_cons, List.not_mem_nil, or_false] at h
    rcases h with rfl | rfl | rfl | rfl <;> decide +kernel
  · split at h
    · simp only [List.mem_cons, List.not_mem_nil, or_false] at h
      rcases h with rfl | rfl | rfl <;> decide +kernel
    · simp only [List.mem_cons, List.not_mem_nil, or_false] at h
      rcases h with rfl | rfl <;> decide +kernel
/-- a table whose rows are of m entries, each good at its place -/
structure TabOk {α : Type} (ok : α → Nat → Nat → Prop) (m : Nat) (w : List (List α)) : Prop where
  len : ∀ r ∈ w, r.length = m
  ent : ∀ r ∈ w, ∀ k e, r[k]? = some e → ok e w.length k
def WE.ws (e : WE) : List Str := [yesS e.t, yesS e.f, e.d, nt e.s.toNat]
def WE.row (e : WE) : Str := PyI.row e.ws
def rowsOf {α : Type} (f : α → Str) (w : List (List α)) : List Str := w.flatMap fun es => ("state" : Str) :: es.map f
theorem WE.ws_len {e : WE} {n k : Nat} (h : e.Ok n k) (hn : n ≤ 1000) : ∀ w ∈ e.ws, w.length ≤ 10 := by
  intro w hw
  simp only [WE.ws, List.mem_cons, List.not_mem_nil, or_false] at hw
  rcases hw with rfl | rfl | rfl | rfl
  · exact Nat.le_trans (yes_len _) (by decide)
  · exact Nat.le_trans (yes_len _) (by decide)
  · rw [wdeed_len h.d]; decide
  · exact nt_len (by have := h.s1; have := h.s0; omega)
theorem WE.row_eq {e : WE} : cat [yesS e.t, " ", yesS e.f, " ", e.d, " ", nt e.s.toNat] = e.row := cat_row4 _ _ _ _
theorem rows_snoc {α : Type} (f : α → Str) (pre : List (List α)) (x : List α) : (rowsOf f (pre ++ [x])).map PV.str = (rowsOf f pre).map PV.str ++ .str ("state" : Str) :: (x.map f).map PV.str := by
  unfold rowsOf
  simp
theorem rows_length {α : Type} {f : α → Str} {m : Nat} : ∀ {w : List (List α)}, (∀ r ∈ w, r.length = m) → (rowsOf f w).length = (m + 1) * w.length
  | [], _ => rfl
  | r :: w, h => by
    have ih := rows_length (f := f) (w := w) fun x hx => h x (List.mem_cons_of_mem _ hx)
    unfold rowsOf at ih ⊢
    rw [List.flatMap_cons, List.length_append, ih, List.length_cons, List.length_map, h r List.mem_cons_self, List.length_cons, Nat.mul_add, Nat.mul_one, Nat.add_comm]
theorem rows_pre {α : Type} {f : α → Str} {m : Nat} {w pre post : List (List α)} {x : List α} (h : ∀ r ∈ w, r.length = m) (e : w = pre ++ x :: post) : (rowsOf f pre).length + m + 1 ≤ (m + 1) * w.length := by
  rw [rows_length (m := m) fun r hr => h r (by rw [e]; exact List.mem_append_left _ hr), e]
  have : (m + 1) * (pre ++ x :: post).length = (m + 1) * pre.length + (m + 1) * (post.length + 1) := by simp [Nat.mul_add]
  rw [this, Nat.mul_add (m + 1) post.length 1]
  omega
theorem split_mem {α : Type} {l pre post : List α} {x : α} (e : l = pre ++ x :: post) : x ∈ l ∧ l[pre.length]? = some x ∧ pre.length < l.length := by
  subst e
  refine ⟨by simp, ?_, by simp⟩
  rw [List.getElem?_append_right (Nat.le_refl _), Nat.sub_self]; rfl
theorem fmtI {i : Int} {env : EnvP} {st st1 : Store} {f : Dn} (h : f env st = .ok (.int i) st1) (h0 : 0 ≤ i) (h1 : i ≤ 1000000000) : cFmt f env st = .ok (.str (nt i.toNat)) st1 := by
  have : i = (i.toNat : Nat) := by omega
  rw [this] at h
  exact fmt_int h (by omega)
theorem strI {i : Int} {st : Store} (h0 : 0 ≤ i) (h1 : i ≤ 1000000000) : bStr [.int i] st = .ok (.str (nt i.toNat)) st := by
  have : i = (i.toNat : Nat) := by omega
  rw [this]
  exact str_int (by omega)
theorem window_text_ok [F1 : Fn D ("truth_text" : Str) 1 1 b_truth_text] [F2 : Fn D ("rows_text" : Str) 1 2 b_rows_text] [F : Fn D ("window_text" : Str) 1 7 b_window_text] {n : Nat} {w : List (List WE)} {st : Store} (h : TabOk WE.Ok 6 w) (hl : w.length ≤ 100) :
    D (n + 2) ("window_text" : Str) [encW w] st = .ok (.str (txt (rowsOf WE.row w))) st := by
  refine fn_pure [some (encW w), none, none, none, none, none, none] (by rfl) (by rfl) ?_
  unfold b_window_text
  refine P_new ?_
  refine P_sFor (p := (w.map (encT WE.pv), [])) (wVal_ok (var_ok rfl) rfl) ?_
  refine P_forL (encT WE.pv) (fun pre env st' => (∃ x2 x3 x4 x5 x6, env = [some (encW w), some (.obj st.length), x2, x3, x4, x5, x6]) ∧ st' = st ++ [.lst ((rowsOf WE.row pre).map PV.str)]) w ⟨⟨_, _, _, _, _, rfl⟩, rfl⟩ ?_ ?_
  · rintro pre es post env st' hw ⟨⟨x2, x3, x4, x5, x6, rfl⟩, rfl⟩
    have hpl := rows_pre (f := WE.row) h.len hw
    refine ⟨_, rfl, ?_⟩
    rw [rows_snoc]
    generalize hR : (rowsOf WE.row pre).map PV.str = R
    have hRl : R.length + 7 ≤ 700 := by rw [← hR, List.length_map]; omega
    refine P_drop ((met_ok (var_ok rfl) (getL rfl) (args1 cst)).trans (app_L rfl (by omega))) ?_
    obtain ⟨hm, _, _⟩ := split_mem hw
    refine P_sFor (p := (es.map WE.pv, [])) (wVal_ok (var_ok rfl) rfl) ?_
    refine P_forL WE.pv (fun pr env st' => (∃ x3 x4 x5 x6, env = [some (encW w), some (.obj st.length), some (encT WE.pv es), x3, x4, x5, x6]) ∧ st' = st ++ [.lst (R ++ [.str ("state" : Str)] ++ (pr.map WE.row).map PV.str)]) es ⟨⟨_, _, _, _, rfl⟩, by simp⟩ ?_ ?_
    · rintro pr e po env st' he ⟨⟨x3, x4, x5, x6, rfl⟩, rfl⟩
      obtain ⟨_, hg, hlt⟩ := split_mem he
      have ok := h.ent es hm _ _ hg
      have hel := h.len es hm
      refine ⟨_, rfl, ?_⟩
      generalize hS : R ++ [PV.str ("state" : Str)] ++ (pr.map WE.row).map PV.str = R2
      have hR2 : R2.length < 16777216 := by rw [← hS]; simp; omega
      have ev : (cJoin [cFmt (cCall 1 (D (n + 1) ("truth_text" : Str)) [] (cArgs [cVar 3])), cC (.str (" " : Str)), cFmt (cCall 1 (D (n + 1) ("truth_text" : Str)) [] (cArgs [cVar 4])), cC (.str (" " : Str)), cFmt (cVar 5), cC (.str (" " : Str)), cFmt (cVar 6)]) [some (encW w), some (.obj st.length), some (encT WE.pv es), some (.bl e.t), some (.bl e.f), some (.str e.d), some (.int e.s)] (st ++ [.lst R2]) = .ok (.str e.row) (st ++ [.lst R2]) := by
        have := ok.s0; have := ok.s1; have := yes_len e.t; have := yes_len e.f; have hd := wdeed_len ok.d
        have hn := nt_len (v := e.s.toNat) (by omega)
        have h1 : (" " : Str).length = 1 := by decide +kernel
        rw [← WE.row_eq]
        refine join_strs (.cons (fmt_str (call_ok' (args1 (var_ok rfl)) rfl truth_text_ok) (by omega)) (.cons cst (.cons (fmt_str (call_ok' (args1 (var_ok rfl)) rfl truth_text_ok) (by omega)) (.cons cst (.cons (fmt_str (var_ok rfl) (by omega)) (.cons cst (.cons (fmtI (var_ok rfl) (by omega) (by omega)) .nil))))))) ?_
        simp [h1]; omega
      refine P_drop ((met_ok (var_ok rfl) (getL rfl) (args1 ev)).trans (app_L rfl hR2)) (P_next ⟨_, .inl rfl, gd_none, ⟨_, _, _, _, rfl⟩, ?_⟩)
      rw [← hS]; simp
    · rintro env st' ⟨⟨x3, x4, x5, x6, rfl⟩, rfl⟩
      refine P_next ⟨_, .inl rfl, gd_none, ⟨_, _, _, _, _, rfl⟩, ?_⟩
      simp
  · rintro env st' ⟨⟨x2, x3, x4, x5, x6, rfl⟩, rfl⟩
    refine P_ret (call_ok' (args1 (var_ok rfl)) rfl (rows_text_ok (getL rfl) ?_ ?_)) ⟨rfl, _, rfl⟩
    · intro r hr
      obtain ⟨es, hes, hr⟩ := List.mem_flatMap.mp hr
      rcases List.mem_cons.mp hr with rfl | hr
      · decide +kernel
      · obtain ⟨e, he, rfl⟩ := List.mem_map.mp hr
        obtain ⟨i, hi, rfl⟩ := List.mem_iff_getElem.mp he
        have ok := h.ent es hes i _ (List.getElem?_eq_getElem hi)
        exact Nat.le_trans (row_len_le (WE.ws_len ok (by omega))) (by show 11 * 4 ≤ 2000; decide)
    · rw [rows_length h.len]; omega
end PyI

/-! PyS6: tables and editions written as texts, continued. -/
namespace PyI
open PySem Sh L2 TL
variable {D : Prg}
theorem law_window_rows_ok [F1 : Fn D ("_law_yes" : Str) 1 1 b_law_yes] [F : Fn D ("_law_window_rows" : Str) 1 7 b_law_window_rows] {n : Nat} {w : List (List WE)} {st : Store} (h : TabOk WE.Ok 6 w) (hl : w.length ≤ 100) :
    D (n + 2) ("_law_window_rows" : Str) [encW w] st = .ok (.obj st.length) (st ++ [.lst ((rowsOf WE.row w).map PV.str)]) := by
  refine fn_grow [some (encW w), none, none, none, none, none, none] (by rfl) (by simp [PV.bound]) ?_
  unfold b_law_window_rows
  refine P_new ?_
  refine P_sFor (p := (w.map (encT WE.pv), [])) (wVal_ok (var_ok rfl) rfl) ?_
  refine P_forL (encT WE.pv) (fun pre env st' => (∃ x2 x3 x4 x5 x6, env = [some (encW w), some (.obj st.length), x2, x3, x4, x5, x6]) ∧ st' = st ++ [.lst ((rowsOf WE.row pre).map PV.str)]) w ⟨⟨_, _, _, _, _, rfl⟩, rfl⟩ ?_ ?_
  · rintro pre es post env st' hw ⟨⟨x2, x3, x4, x5, x6, rfl⟩, rfl⟩
    have hpl := rows_pre (f := WE.row) h.len hw
    refine ⟨_, rfl, ?_⟩
    rw [rows_snoc]
    generalize hR : (rowsOf WE.row pre).map PV.str = R
    have hRl : R.length + 7 ≤ 700 := by rw [← hR, List.length_map]; omega
    refine P_drop ((met_ok (var_ok rfl) (getL rfl) (args1 cst)).trans (app_L rfl (by omega))) ?_
    obtain ⟨hm, _, _⟩ := split_mem hw
    refine P_sFor (p := (es.map WE.pv, [])) (wVal_ok (var_ok rfl) rfl) ?_
    refine P_forL WE.pv (fun pr env st' => (∃ x3 x4 x5 x6, env = [some (encW w), some (.obj st.length), some (encT WE.pv es), x3, x4, x5, x6]) ∧ st' = st ++ [.lst (R ++ [.str ("state" : Str)] ++ (pr.map WE.row).map PV.str)]) es ⟨⟨_, _, _, _, rfl⟩, by simp⟩ ?_ ?_
    · rintro pr e po env st' he ⟨⟨x3, x4, x5, x6, rfl⟩, rfl⟩
      obtain ⟨_, hg, hlt⟩ := split_mem he
      have ok := h.ent es hm _ _ hg
      have hel := h.len es hm
      refine ⟨_, rfl, ?_⟩
      generalize hS : R ++ [PV.str ("state" : Str)] ++ (pr.map WE.row).map PV.str = R2
      have hR2 : R2.length < 16777216 := by rw [← hS]; simp; omega
      have ev : (cMetL mJoinL (cC (.str (" " : Str))) (cLst (cArgs [cCall 1 (D (n + 1) ("_law_yes" : Str)) [] (cArgs [cVar 3]), cCall 1 (D (n + 1) ("_law_yes" : Str)) [] (cArgs [cVar 4]), cVar 5, cApp bStr (cArgs [cVar 6])]))) [some (encW w), some (.obj st.length), some (encT WE.pv es), some (.bl e.t), some (.bl e.f), some (.str e.d), some (.int e.s)] (st ++ [.lst R2]) = .ok (.str e.row) (st ++ [.lst R2]) := by
        have := ok.s0; have := ok.s1; have := yes_len e.t; have := yes_len e.f; have hd := wdeed_len ok.d
        have hn := nt_len (v := e.s.toNat) (by omega)
        refine (metL_ok (xs := e.ws.map PV.str) cst (lst_ok (args_cons_ok (call_ok' (args1 (var_ok rfl)) rfl law_yes_ok) (args_cons_ok (call_ok' (args1 (var_ok rfl)) rfl law_yes_ok) (args2 (var_ok rfl) ((app_ok (args1 (var_ok rfl))).trans (strI (by omega) (by omega)))))) (show 4 ≤ sizeLine by decide))).trans (joinL_row ?_)
        simp [WE.ws]; omega
      refine P_drop ((met_ok (var_ok rfl) (getL rfl) (args1 ev)).trans (app_L rfl hR2)) (P_next ⟨_, .inl rfl, gd_none, ⟨_, _, _, _, rfl⟩, ?_⟩)
      rw [← hS]; simp
    · rintro env st' ⟨⟨x3, x4, x5, x6, rfl⟩, rfl⟩
      refine P_next ⟨_, .inl rfl, gd_none, ⟨_, _, _, _, _, rfl⟩, ?_⟩
      simp
  · rintro env st' ⟨⟨x2, x3, x4, x5, x6, rfl⟩, rfl⟩
    exact P_ret (var_ok rfl) ⟨rfl, rfl⟩
/-! ### hello tables -/
def hdeeds (k : Nat) : List Str := if k % 2 = 1 then ["ignore", "anew", "front", "drop"] else ["ignore", "open"]
structure HE.Ok (e : HE) (n k : Nat) : Prop where
  d : e.d ∈ hdeeds k
  s0 : 0 ≤ e.s
  s1 : e.s < n
theorem hdeed_len {k : Nat} {d : Str} (h : d ∈ hdeeds k) : d.length ≤ 6 := by
  unfold hdeeds at h
  split at h
  · simp only [List.mem_cons, List.not_mem_nil, or_false] at h
    rcases h with rfl | rfl | rfl | rfl <;> decide +kernel
  · simp only [List.mem_cons, List.not_mem_nil, or_false] at h
    rcases h with rfl | rfl <;> decide +kernel
def HE.ws (e : HE) : List Str := [e.d, nt e.s.toNat]
def HE.row (e : HE) : Str := PyI.row e.ws
theorem HE.ws_len {e : HE} {n k : Nat} (h : e.Ok n k) (hn : n ≤ 1000) : ∀ w ∈ e.ws, w.length ≤ 10 := by
  intro w hw
  simp only [HE.ws, List.mem_cons, List.not_mem_nil, or_false] at hw
  rcases hw with rfl | rfl
  · have := hdeed_len h.d; omega
  · exact nt_len (by have := h.s1; have := h.s0; omega)
theorem ext_L {st : Store} {n m : Nat} {xs ys : List PV} (h : st.length = n) (hm : m = n + 1) (hl : xs.length + ys.length ≤ 16777216) : mExtend (.obj n) [.obj m] (st ++ [.lst xs, .lst ys]) = .ok .non (st ++ [.lst (xs ++ ys), .lst ys]) := by
  subst hm
  have h1 : (st ++ [Ob.lst xs, .lst ys])[n]? = some (.lst xs) := getL h
  have h2 : (st ++ [Ob.lst xs, .lst ys])[n + 1]? = some (.lst ys) := by rw [List.getElem?_append_right (by omega)]; simp [h]
  unfold mExtend
  simp only [h1, h2]
  rw [if_pos (show xs.length + ys.length ≤ sizeLine from hl), setL h]
/-- rows.extend([..]) -/
theorem P_ext {i : Nat} {fl : Ln} {rest : Sm} {env : EnvP} {st : Store} {n : Nat} {xs ys : List PV} {G : Store} {Q : QF} (hv : env[i]? = some (some (.obj n))) (hn : st.length = n) (hf : fl env (st ++ .lst xs :: G) = .ok ys (st ++ .lst xs :: G)) (hl : xs.length + ys.length ≤ 16777216) (k : (rest env (st ++ .lst (xs ++ ys) :: (G ++ [.lst ys]))).P Q) :
    (sSeq (sDrop (cMet "list" mExtend (cVar i) (cArgs [cKeep fl]))) rest env (st ++ .lst xs :: G)).P Q := by
  have g1 : ((st ++ .lst xs :: G) ++ [Ob.lst ys])[n]? = some (.lst xs) := getO (getL hn) _
  have g2 : ((st ++ .lst xs :: G) ++ [Ob.lst ys])[(st ++ .lst xs :: G).length]? = some (.lst ys) := by simp
  refine P_drop (d := .non) (st' := st ++ .lst (xs ++ ys) :: (G ++ [.lst ys])) ?_ k
  refine (met_ok (var_ok hv) (getL hn) (args1 (keep_ok hf))).trans ?_
  unfold mExtend
  simp only [g1, g2]
  rw [if_pos (show xs.length + ys.length ≤ sizeLine from hl)]
  have e : ((st ++ .lst xs :: G) ++ [Ob.lst ys]) = st ++ .lst xs :: (G ++ [.lst ys]) := by simp
  rw [e, setL hn]
theorem hello_text_ok [F2 : Fn D ("rows_text" : Str) 1 2 b_rows_text] [F : Fn D ("hello_text" : Str) 1 5 b_hello_text] {n : Nat} {w : List (List HE)} {st : Store} (h : TabOk HE.Ok 5 w) (hl : w.length ≤ 100) :
    D (n + 2) ("hello_text" : Str) [encH w] st = .ok (.str (txt (rowsOf HE.row w))) st := by
  refine fn_pure [some (encH w), none, none, none, none] (by rfl) (by rfl) ?_
  unfold b_hello_text
  refine P_new ?_
  refine P_sFor (p := (w.map (encT HE.pv), [])) (wVal_ok (var_ok rfl) rfl) ?_
  refine P_forL (encT HE.pv) (fun pre env st' => (∃ x2 x3 x4, env = [some (encH w), some (.obj st.length), x2, x3, x4]) ∧ ∃ G, st' = st ++ .lst ((rowsOf HE.row pre).map PV.str) :: G) w ⟨⟨_, _, _, rfl⟩, _, rfl⟩ ?_ ?_
  · rintro pre es post env st' hw ⟨⟨x2, x3, x4, rfl⟩, G, rfl⟩
    have hpl := rows_pre (f := HE.row) h.len hw
    refine ⟨_, rfl, ?_⟩
    rw [rows_snoc]
    generalize hR : (rowsOf HE.row pre).map PV.str = R
    have hRl : R.length + 6 ≤ 700 := by rw [← hR, List.length_map]; omega
    obtain ⟨hm, _, _⟩ := split_mem hw
    have hel := h.len es hm
    refine P_drop ((met_ok (var_ok rfl) (getL rfl) (args1 cst)).trans (app_L rfl (by omega))) ?_
    refine P_ext (ys := (es.map HE.row).map PV.str) (by rfl) rfl ?_ (by simp; omega) (P_next ⟨_, .inl rfl, gd_none, ⟨_, _, _, rfl⟩, _, by simp; rfl⟩)
    refine comp_ok2 (xs := es.map HE.pv) (gd := []) (wVal_ok (var_ok rfl) rfl) gd_nil (by have : sizeLine = 2 ^ 24 := rfl; simp; omega) ?_
    rw [map2]
    refine All2.map fun e he => ⟨_, rfl, rfl, ?_⟩
    obtain ⟨i, hi, rfl⟩ := List.mem_iff_getElem.mp he
    have ok := h.ent es hm i _ (List.getElem?_eq_getElem hi)
    have := ok.s0; have := ok.s1; have hd := hdeed_len ok.d
    have hn := nt_len (v := (es[i]).s.toNat) (by omega)
    have h1 : (" " : Str).length = 1 := by decide +kernel
    have e2 : cat [(es[i]).d, " ", nt (es[i]).s.toNat] = (es[i]).row := cat_row2 _ _
    rw [← e2]
    exact join_strs (.cons (fmt_str (var_ok rfl) (by omega)) (.cons cst (.cons (fmtI (var_ok rfl) (by omega) (by omega)) .nil))) (by simp [h1]; omega)
  · rintro env st' ⟨⟨x2, x3, x4, rfl⟩, G, rfl⟩
    refine P_ret (call_ok' (args1 (var_ok rfl)) rfl (rows_text_ok (getL rfl) ?_ ?_)) ⟨rfl, _, rfl⟩
    · intro r hr
      obtain ⟨es, hes, hr⟩ := List.mem_flatMap.mp hr
      rcases List.mem_cons.mp hr with rfl | hr
      · decide +kernel
      · obtain ⟨e, he, rfl⟩ := List.mem_map.mp hr
        obtain ⟨i, hi, rfl⟩ := List.mem_iff_getElem.mp he
        have ok := h.ent es hes i _ (List.getElem?_eq_getElem hi)
        exact Nat.le_trans (row_len_le (HE.ws_len ok (by omega))) (by show 11 * 2 ≤ 2000; decide)
    · rw [rows_length h.len]; omega
theorem add_row2 {a b : Str} {st : Store} (h : a.length + b.length ≤ 1000) : (opAdd (.str a) (.str (" " : Str)) st = .ok (.str (a ++ " ")) st) ∧ opAdd (.str (a ++ " ")) (.str b) st = .ok (.str (row [a, b])) st := by
  have h1 : (" " : Str).length = 1 := by decide +kernel
  have hz : sizeLine = 2 ^ 24 := rfl
  refine ⟨add_ss (by omega), ?_⟩
  have e : row [a, b] = a ++ " " ++ b := rfl
  rw [e]
  exact add_ss (by rw [len_append]; omega)
theorem law_hello_rows_ok [F : Fn D ("_law_hello_rows" : Str) 1 4 b_law_hello_rows] {n : Nat} {w : List (List HE)} {st : Store} (h : TabOk HE.Ok 5 w) (hl : w.length ≤ 100) :
    (D (n + 1) ("_law_hello_rows" : Str) [encH w] st).P fun d s => d = .obj st.length ∧ ∃ G, s = st ++ .lst ((rowsOf HE.row w).map PV.str) :: G := by
  refine fn_P [some (encH w), none, none, none] (by rfl) ?_
  unfold b_law_hello_rows
  refine P_new ?_
  refine P_sFor (p := (w.map (encT HE.pv), [])) (wVal_ok (var_ok rfl) rfl) ?_
  refine P_forL (encT HE.pv) (fun pre env st' => (∃ x2 x3, env = [some (encH w), some (.obj st.length), x2, x3]) ∧ ∃ G, st' = st ++ .lst ((rowsOf HE.row pre).map PV.str) :: G) w ⟨⟨_, _, rfl⟩, _, rfl⟩ ?_ ?_
  · rintro pre es post env st' hw ⟨⟨x2, x3, rfl⟩, G, rfl⟩
    have hpl := rows_pre (f := HE.row) h.len hw
    refine ⟨_, rfl, ?_⟩
    rw [rows_snoc]
    generalize hR : (rowsOf HE.row pre).map PV.str = R
    have hRl : R.length + 6 ≤ 700 := by rw [← hR, List.length_map]; omega
    obtain ⟨hm, _, _⟩ := split_mem hw
    have hel := h.len es hm
    refine P_drop ((met_ok (var_ok rfl) (getL rfl) (args1 cst)).trans (app_L rfl (by omega))) ?_
    refine P_ext (ys := (es.map HE.row).map PV.str) (by rfl) rfl ?_ (by simp; omega) (P_next ⟨_, .inl rfl, gd_none, ⟨_, _, rfl⟩, _, by simp; rfl⟩)
    refine comp_ok2 (xs := es.map HE.pv) (gd := []) (wVal_ok (var_ok rfl) rfl) gd_nil (by have : sizeLine = 2 ^ 24 := rfl; simp; omega) ?_
    rw [map2]
    refine All2.map fun e he => ⟨_, rfl, rfl, ?_⟩
    obtain ⟨i, hi, rfl⟩ := List.mem_iff_getElem.mp he
    have ok := h.ent es hm i _ (List.getElem?_eq_getElem hi)
    have := ok.s0; have := ok.s1; have hd := hdeed_len ok.d
    have hn := nt_len (v := (es[i]).s.toNat) (by omega)
    obtain ⟨k1, k2⟩ := add_row2 (a := (es[i]).d) (b := nt (es[i]).s.toNat) (st := st ++ .lst (R ++ [.str ("state" : Str)]) :: G) (by omega)
    exact (bin_ok ((bin_ok ((bin_ok (var_ok rfl) cst).trans (get_tup at_zero)) cst).trans k1) ((app_ok (args1 ((bin_ok (var_ok rfl) cst).trans (get_tup (at_nat (i := 1) rfl))))).trans (strI (by omega) (by omega)))).trans k2
  · rintro env st' ⟨⟨x2, x3, rfl⟩, G, rfl⟩
    refine P_ret (var_ok rfl) ⟨_, .inl rfl, ?_⟩
    unfold gcP
    rw [if_neg fun z => by have := z.1; simp [PV.bound] at this]
    exact ⟨rfl, _, rfl⟩
end PyI

/-! PyS7: prefixes and editions written as texts. -/
namespace PyI
open PySem Sh L2 TL
variable {D : Prg}
/-- the bit i of a prefix of length l -/
def bitOf (l b i : Nat) : Nat := b / 2 ^ (l - 1 - i) % 2
def pword (p : PX) : Str := if p.l = 0 then "-" else Str.join ("" : Str) ((List.range p.l).map fun i => nt (bitOf p.l p.b i))
theorem bit_lt (l b i : Nat) : bitOf l b i < 2 := Nat.mod_lt _ (by decide)
theorem nt1_len {c : Nat} (h : c < 2) : (nt c).length = 1 := by
  have : c = 0 ∨ c = 1 := by omega
  rcases this with rfl | rfl <;> decide +kernel
theorem nt1_cl {c : Nat} (h : c < 2) : cl (nt c) = [48 + c] := by
  have : c = 0 ∨ c = 1 := by omega
  rcases this with rfl | rfl <;> decide +kernel
theorem flat_one {α β : Type} {f : α → List β} {g : α → β} : ∀ {l : List α}, (∀ x ∈ l, f x = [g x]) → l.flatMap f = l.map g
  | [], _ => rfl
  | x :: l, h => by rw [List.flatMap_cons, h x List.mem_cons_self, flat_one fun y hy => h y (List.mem_cons_of_mem _ hy)]; rfl
theorem pword_cl {p : PX} (h : 0 < p.l) : cl (pword p) = (List.range p.l).map fun i => 48 + bitOf p.l p.b i := by
  unfold pword
  rw [if_neg (by omega), cl_join0, List.flatMap_map]
  exact flat_one fun i _ => nt1_cl (bit_lt _ _ _)
theorem pword_len {p : PX} {m : Nat} (h : p.l ≤ m) : (pword p).length ≤ m + 1 := by
  by_cases h0 : p.l = 0
  · unfold pword
    rw [if_pos h0]
    have : ("-" : Str).length = 1 := by decide +kernel
    omega
  · rw [cl_len, pword_cl (by omega)]
    simp; omega
theorem joinBits {l : Nat} {st : Store} {f : Nat → Nat} (hl : l ≤ 1000) (hf : ∀ i, f i < 2) : mJoinL (.str ("" : Str)) (((List.range l).map fun i => nt (f i)).map PV.str) st = .ok (.str (Str.join ("" : Str) ((List.range l).map fun i => nt (f i)))) st := by
  refine joinP_ok ?_
  have e0 : ("" : Str).length = 0 := by decide +kernel
  have : ∀ l : List Nat, ((l.map fun i => nt (f i)).map (·.length)).sum = l.length := fun l => by
    induction l with
    | nil => rfl
    | cons a r ih => simp only [List.map_cons, List.sum_cons, List.length_cons] at ih ⊢; rw [ih, nt1_len (hf a)]; omega
  rw [this, e0]
  simp; omega
theorem prefix_text_ok [F : Fn D ("prefix_text" : Str) 1 4 b_prefix_text] {n : Nat} {p : PX} {st : Store} (hl : p.l ≤ 1000) : D (n + 1) ("prefix_text" : Str) [p.pv] st = .ok (.str (pword p)) st := by
  refine fn_pure [some p.pv, none, none, none] (by rfl) rfl ?_
  unfold b_prefix_text
  refine P_asgT (var_ok rfl) (show setT (.tup [.name 1, .name 2]) p.pv [some p.pv, none, none, none] st = .ok [some p.pv, some (.int p.l), some (.int p.b), none] st from rfl) ?_
  by_cases h0 : p.l = 0
  · refine P_ift (test_ok (eqI (var_ok rfl) cst (b := true) (by simp [h0]))) (P_ret cst ⟨?_, [], by simp⟩)
    unfold pword
    rw [if_pos h0]
  · refine P_if0 (test_ok (eqI (var_ok rfl) cst (b := false) (by simp [h0]))) (P_ret ((metL_ok cst (comp_ok2 (ys := ((List.range p.l).map fun i => nt (bitOf p.l p.b i)).map PV.str) (range_ok (var_ok rfl) (by omega)) gd_nil (by have : sizeLine = 2 ^ 24 := rfl; simp; omega) ?_)).trans (joinBits hl (bit_lt _ _))) ⟨?_, [], by simp⟩)
    · rw [map2, Int.toNat_natCast]
      refine All2.map fun i hi => ⟨_, rfl, rfl, ?_⟩
      have hi := List.mem_range.mp hi
      have e1 : ((p.l : Int) - 1 - (i : Int)) = ((p.l - 1 - i : Nat) : Int) := by omega
      have sh : opShr (.int (p.b : Nat)) (.int ((p.l - 1 - i : Nat) : Int)) st = .ok (.int ((p.b / 2 ^ (p.l - 1 - i) : Nat) : Int)) st := by
        have := ii_ok (C := fun _ j => 0 ≤ j) (f := fun i j => i / 2 ^ j.toNat) (i := (p.b : Nat)) (j := ((p.l - 1 - i : Nat) : Int)) (st := st) (by omega)
        rw [Int.toNat_natCast] at this
        refine this.trans ?_
        push_cast
        rfl
      have an : opAnd (.int ((p.b / 2 ^ (p.l - 1 - i) : Nat) : Int)) (.int 1) st = .ok (.int ((bitOf p.l p.b i : Nat) : Int)) st := by
        have := ii_ok (C := fun _ _ => True) (f := Builtin.bitAnd) (i := ((p.b / 2 ^ (p.l - 1 - i) : Nat) : Int)) (j := 1) (st := st) trivial
        rw [PyProof.Rows.bitAnd_m1] at this
        refine this.trans ?_
        unfold bitOf
        push_cast
        rfl
      exact (app_ok (args1 ((bin_ok ((bin_ok (var_ok rfl) (subI (subI (var_ok rfl) cst rfl) (var_ok rfl) e1)).trans sh) cst).trans an))).trans (str_int (by have := bit_lt p.l p.b i; omega))
    · unfold pword
      rw [if_neg h0]
theorem law_prefix_word_ok [F1 : Fn D ("_law_power" : Str) 1 3 b_law_power] [F : Fn D ("_law_prefix_word" : Str) 1 4 b_law_prefix_word] {n : Nat} {p : PX} {st : Store} (hl : p.l ≤ 29) : D (n + 2) ("_law_prefix_word" : Str) [p.pv] st = .ok (.str (pword p)) st := by
  refine fn_pure [some p.pv, none, none, none] (by rfl) rfl ?_
  unfold b_law_prefix_word
  refine P_asgT (var_ok rfl) (show setT (.tup [.name 1, .name 2]) p.pv [some p.pv, none, none, none] st = .ok [some p.pv, some (.int p.l), some (.int p.b), none] st from rfl) ?_
  by_cases h0 : p.l = 0
  · refine P_ift (test_ok (eqI (var_ok rfl) cst (b := true) (by simp [h0]))) (P_ret cst ⟨?_, [], by simp⟩)
    unfold pword
    rw [if_pos h0]
  · refine P_if0 (test_ok (eqI (var_ok rfl) cst (b := false) (by simp [h0]))) (P_ret ((metL_ok cst (comp_ok2 (ys := ((List.range p.l).map fun i => nt (bitOf p.l p.b i)).map PV.str) (range_ok (var_ok rfl) (by omega)) gd_nil (by have : sizeLine = 2 ^ 24 := rfl; simp; omega) ?_)).trans (joinBits (by omega) (bit_lt _ _))) ⟨?_, [], by simp⟩)
    · rw [map2, Int.toNat_natCast]
      refine All2.map fun i hi => ⟨_, rfl, rfl, ?_⟩
      have hi := List.mem_range.mp hi
      have e1 : ((p.l : Int) - 1 - (i : Int)) = ((p.l - 1 - i : Nat) : Int) := by omega
      have pw := law_power_ok (D := D) (n := n) (l := p.l - 1 - i) (st := st) (by omega)
      have hp : 0 < 2 ^ (p.l - 1 - i) := Nat.pow_pos (by decide)
      have hp2 : 2 ^ (p.l - 1 - i) ≤ 2 ^ 28 := Nat.pow_le_pow_right (by decide) (by omega)
      have e2 : ((p.b : Nat) : Int) / ((2 ^ (p.l - 1 - i) : Nat) : Int) = ((p.b / 2 ^ (p.l - 1 - i) : Nat) : Int) := by push_cast; rfl
      have e3 : ((p.b / 2 ^ (p.l - 1 - i) : Nat) : Int) % 2 = ((bitOf p.l p.b i : Nat) : Int) := by unfold bitOf; push_cast; rfl
      exact (app_ok (args1 (modI (int1 (divI (var_ok rfl) (call_ok' (args1 (subI (subI (var_ok rfl) cst rfl) (var_ok rfl) e1)) rfl pw) (by omega) e2)) cst (by omega) e3))).trans (str_int (by have := bit_lt p.l p.b i; omega))
    · unfold pword
      rw [if_neg h0]
/-! ### editions -/
def RL.ws (r : RL) : List Str := [pword r.s, pword r.t, nt r.a]
def RL.row (r : RL) : Str := PyI.row r.ws
def bitsRow (bits : Nat) : Str := PyI.row ["bits", nt bits]
def edRows (bits : Nat) (rs : List RL) : List Str := bitsRow bits :: rs.map RL.row
theorem bits_cat (bits : Nat) : cat ["bits ", nt bits] = bitsRow bits := str_eq (by
  rw [cl_cat]; unfold bitsRow PyI.row; rw [join_cons]
  have : cl ("bits " : Str) = cl ("bits" : Str) ++ cl (" " : Str) := by decide +kernel
  simp [this, Str.join])
theorem edrow_len {bits : Nat} {rs : List RL} (h : EdOk bits rs) (hb : bits ≤ 16) : ∀ r ∈ edRows bits rs, r.length ≤ 2000 := by
  intro r hr
  rcases List.mem_cons.mp hr with rfl | hr
  · refine Nat.le_trans (row_len_le (m := 10) fun w hw => ?_) (by show 11 * 2 ≤ 2000; decide)
    simp only [List.mem_cons, List.not_mem_nil, or_false] at hw
    rcases hw with rfl | rfl
    · decide +kernel
    · exact nt_len (by omega)
  · obtain ⟨q, hq, rfl⟩ := List.mem_map.mp hr
    have k := h.rule q hq
    refine Nat.le_trans (row_len_le (m := 17) fun w hw => ?_) (by show 18 * 3 ≤ 2000; decide)
    simp only [RL.ws, List.mem_cons, List.not_mem_nil, or_false] at hw
    rcases hw with rfl | rfl | rfl
    · have := pword_len (p := q.s) (m := 16) (by omega); omega
    · have := pword_len (p := q.t) (m := 16) (by omega); omega
    · have := nt_len (v := q.a) (by omega); omega
theorem edition_text_ok [F1 : Fn D ("prefix_text" : Str) 1 4 b_prefix_text] [F2 : Fn D ("rows_text" : Str) 1 2 b_rows_text] [F : Fn D ("edition_text" : Str) 1 7 b_edition_text] {n bits : Nat} {rs : List RL} {st : Store} (h : EdOk bits rs) (hb : bits ≤ 16) :
    D (n + 2) ("edition_text" : Str) [edPV bits rs] st = .ok (.str (txt (edRows bits rs))) st := by
  refine fn_pure [some (edPV bits rs), none, none, none, none, none, none] (by rfl) (by rfl) ?_
  unfold b_edition_text
  have hl := h.len
  refine P_asgT (var_ok rfl) (show setT (.tup [.name 2, .name 3]) (edPV bits rs) [some (edPV bits rs), none, none, none, none, none, none] st = .ok [some (edPV bits rs), none, some (.int bits), some (.tup (rs.map RL.pv)), none, none, none] st from rfl) ?_
  have h1 : (" " : Str).length = 1 := by decide +kernel
  have hbl : ("bits " : Str).length = 5 := by decide +kernel
  have hn := nt_len (v := bits) (by omega)
  refine P_asg (keep_ok (lst_ok (args1 (join_strs (ss := ["bits ", nt bits]) (.cons cst (.cons (fmt_int (var_ok rfl) (by omega)) .nil)) (by simp [hbl]; omega))) (show 1 ≤ sizeLine by decide))) ?_
  rw [bits_cat]
  refine P_ext (n := st.length) (xs := [.str (bitsRow bits)]) (G := []) (ys := (rs.map RL.row).map PV.str) (by rfl) rfl ?_ (by simp; omega) ?_
  · refine comp_ok2 (xs := rs.map RL.pv) (gd := []) (wVal_ok (var_ok rfl) rfl) gd_nil (by have : sizeLine = 2 ^ 24 := rfl; simp; omega) ?_
    rw [map2]
    refine All2.map fun r hr => ⟨_, rfl, rfl, ?_⟩
    have k := h.rule r hr
    have e3 : cat [pword r.s, " ", pword r.t, " ", nt r.a] = r.row := cat_row3 _ _ _
    have l1 := pword_len (p := r.s) (m := 16) (by omega)
    have l2 := pword_len (p := r.t) (m := 16) (by omega)
    have l3 := nt_len (v := r.a) (by omega)
    rw [← e3]
    exact join_strs (.cons (fmt_str (call_ok' (args1 (var_ok rfl)) rfl (prefix_text_ok (by omega))) (by omega)) (.cons cst (.cons (fmt_str (call_ok' (args1 (var_ok rfl)) rfl (prefix_text_ok (by omega))) (by omega)) (.cons cst (.cons (fmt_int (var_ok rfl) (by omega)) .nil))))) (by simp [h1]; omega)
  · refine P_ret (call_ok' (args1 (var_ok rfl)) rfl (rows_text_ok (rows := edRows bits rs) (by rw [List.nil_append]; exact getL rfl) (edrow_len h hb) (by simp [edRows]; omega))) ⟨rfl, _, rfl⟩
theorem law_edition_rows_ok [F0 : Fn D ("_law_power" : Str) 1 3 b_law_power] [F1 : Fn D ("_law_prefix_word" : Str) 1 4 b_law_prefix_word] [F : Fn D ("_law_edition_rows" : Str) 1 5 b_law_edition_rows] {n bits : Nat} {rs : List RL} {st : Store} (h : EdOk bits rs) (hb : bits ≤ 16) :
    D (n + 3) ("_law_edition_rows" : Str) [edPV bits rs] st = .ok (.obj st.length) (st ++ [.lst ((edRows bits rs).map PV.str)]) := by
  refine fn_grow [some (edPV bits rs), none, none, none, none] (by rfl) (by simp [PV.bound]) ?_
  unfold b_law_edition_rows
  have hl := h.len
  have h1 : (" " : Str).length = 1 := by decide +kernel
  have hbl : ("bits " : Str).length = 5 := by decide +kernel
  have hn := nt_len (v := bits) (by omega)
  have hz : sizeLine = 2 ^ 24 := rfl
  have eb : opAdd (.str ("bits " : Str)) (.str (nt bits)) st = .ok (.str (bitsRow bits)) st := by
    rw [← bits_cat]
    exact (add_ss (by omega)).trans (by rw [show cat ["bits ", nt bits] = ("bits " : Str) ++ nt bits from str_eq (by rw [cl_cat]; simp)])
  refine P_asg (keep_ok (lst_ok (args1 ((bin_ok cst ((app_ok (args1 ((bin_ok (var_ok rfl) cst).trans (get_tup at_zero)))).trans (str_int (by omega)))).trans eb)) (show 1 ≤ sizeLine by decide))) ?_
  refine P_sFor (p := (rs.map RL.pv, [])) (wVal_ok ((bin_ok (var_ok rfl) cst).trans (get_tup (at_nat (i := 1) rfl))) rfl) ?_
  refine P_forL RL.pv (fun pre env st' => (∃ x2 x3 x4, env = [some (edPV bits rs), some (.obj st.length), x2, x3, x4]) ∧ st' = st ++ [.lst ((edRows bits pre).map PV.str)]) rs ⟨⟨_, _, _, rfl⟩, rfl⟩ ?_ ?_
  · rintro pre r post env st' hrs ⟨⟨x2, x3, x4, rfl⟩, rfl⟩
    obtain ⟨hm, _, hlt⟩ := split_mem hrs
    refine ⟨_, rfl, ?_⟩
    have k := h.rule r hm
    have l1 := pword_len (p := r.s) (m := 16) (by omega)
    have l2 := pword_len (p := r.t) (m := 16) (by omega)
    have l3 := nt_len (v := r.a) (by omega)
    have ev : (cMetL mJoinL (cC (.str (" " : Str))) (cLst (cArgs [cCall 1 (D (n + 2) ("_law_prefix_word" : Str)) [] (cArgs [cVar 2]), cCall 1 (D (n + 2) ("_law_prefix_word" : Str)) [] (cArgs [cVar 3]), cApp bStr (cArgs [cVar 4])]))) [some (edPV bits rs), some (.obj st.length), some r.s.pv, some r.t.pv, some (.int r.a)] (st ++ [.lst ((edRows bits pre).map PV.str)]) = .ok (.str r.row) (st ++ [.lst ((edRows bits pre).map PV.str)]) := by
      refine (metL_ok (xs := r.ws.map PV.str) cst (lst_ok (args3 (call_ok' (args1 (var_ok rfl)) rfl (law_prefix_word_ok (by omega))) (call_ok' (args1 (var_ok rfl)) rfl (law_prefix_word_ok (by omega))) ((app_ok (args1 (var_ok rfl))).trans (str_int (by omega)))) (show 3 ≤ sizeLine by decide))).trans (joinL_row ?_)
      simp [RL.ws]; omega
    refine P_drop ((met_ok (var_ok rfl) (getL rfl) (args1 ev)).trans (app_L rfl (by simp [edRows]; omega))) (P_next ⟨_, .inl rfl, gd_none, ⟨_, _, _, rfl⟩, ?_⟩)
    simp [edRows]
  · rintro env st' ⟨⟨x2, x3, x4, rfl⟩, rfl⟩
    exact P_ret (var_ok rfl) ⟨rfl, rfl⟩
end PyI

/-! PyS8: tables read from texts. -/
namespace PyI
open PySem Sh L2 TL
variable {D : Prg}
/-! ### any, all of two clauses: each item the same way -/
theorem gx_same {stop : Bool} {t : Tg} {tt : Tn} {te : Dn} {env0 : EnvP} {gd : Guard} {st : Store} (hg : gdOk gd st = true) : ∀ xs : List PV, (∀ x ∈ xs, ∃ e, setT t x env0 st = .ok e st ∧ tt e st = .ok true st ∧ te e st = .ok (.bl (!stop)) st) → gxLoop stop t tt te env0 gd xs st = .ok (!stop) st
  | [], _ => rfl
  | x :: xs, h => by
    obtain ⟨e, h1, h2, h3⟩ := h x List.mem_cons_self
    unfold gxLoop
    rw [bind_ok h1, bind_ok h2, if_pos rfl, bind_ok h3]
    simp only
    rw [if_neg (by cases stop <;> decide), bind_ok (show chk gd st = .ok () st by unfold chk; rw [if_pos hg])]
    exact gx_same hg xs fun y hy => h y (List.mem_cons_of_mem _ hy)
theorem gx2_same {stop : Bool} {t t2 : Tg} {tt tt2 : Tn} {wi2 : Wn} {te : Dn} {vs2 : List Nat} {env0 : EnvP} {gd : Guard} {st : Store} (hg : gdOk gd st = true) : ∀ xs : List PV, (∀ x ∈ xs, ∃ e p, setT t x env0 st = .ok e st ∧ tt e st = .ok true st ∧ wi2 e st = .ok p st ∧ gxLoop stop t2 tt2 te (wipeP e vs2) p.2 p.1 st = .ok (!stop) st) →
    gx2Loop stop t tt wi2 t2 tt2 te vs2 env0 gd xs st = .ok (!stop) st
  | [], _ => rfl
  | x :: xs, h => by
    obtain ⟨e, p, h1, h2, h3, h4⟩ := h x List.mem_cons_self
    unfold gx2Loop
    rw [bind_ok h1, bind_ok h2, if_pos rfl, bind_ok h3, bind_ok h4, if_neg (by cases stop <;> decide), bind_ok (show chk gd st = .ok () st by unfold chk; rw [if_pos hg])]
    exact gx2_same hg xs fun y hy => h y (List.mem_cons_of_mem _ hy)
theorem cGx2_ok {stop : Bool} {wi wi2 : Wn} {t t2 : Tg} {tt tt2 : Tn} {te : Dn} {own vs2 : List Nat} {env : EnvP} {st st1 : Store} {p : List PV × Guard} {b : Bool} (hw : wi env st = .ok p st1) (h : gx2Loop stop t tt wi2 t2 tt2 te vs2 (wipeP env own) p.2 p.1 st1 = .ok b st1) : cGx2 stop wi t tt wi2 t2 tt2 te own vs2 env st = .ok (.bl b) st1 := by
  unfold cGx2
  rw [bind_ok hw, bind_ok (noEx_ok h)]
  rfl
/-! ### rows with their numbers -/
def itemsOf (k : Nat) (l : List Str) : List PV := ((l.map PV.str).zipIdx k).map fun p => PV.tup [.int (p.2 : Nat), p.1]
theorem items_cons (k : Nat) (a : Str) (l : List Str) : itemsOf k (a :: l) = .tup [.int k, .str a] :: itemsOf (k + 1) l := rfl
theorem items_append : ∀ (k : Nat) (a b : List Str), itemsOf k (a ++ b) = itemsOf k a ++ itemsOf (k + a.length) b
  | k, [], b => rfl
  | k, x :: a, b => by
    rw [List.cons_append, items_cons, items_append (k + 1) a b, items_cons]
    simp [Nat.add_assoc, Nat.add_comm 1]
/-! ### a list of lists -/
def refs (t n : Nat) : List PV := (List.range n).map fun i => PV.obj (t + 1 + i)
def tabSt (base : Store) (tabs : List (List PV)) : Store := base ++ .lst (refs base.length tabs.length) :: tabs.map Ob.lst
theorem refs_len (t n : Nat) : (refs t n).length = n := by simp [refs]
theorem refs_succ (t n : Nat) : refs t (n + 1) = refs t n ++ [.obj (t + 1 + n)] := by simp [refs, List.range_succ]
theorem tab_get (base : Store) (tabs : List (List PV)) : (tabSt base tabs)[base.length]? = some (.lst (refs base.length tabs.length)) := getL rfl
theorem tab_sub {base : Store} {tabs : List (List PV)} {i : Nat} {es : List PV} (h : tabs[i]? = some es) : (tabSt base tabs)[base.length + 1 + i]? = some (.lst es) := by
  unfold tabSt
  rw [List.getElem?_append_right (by omega)]
  have e : base.length + 1 + i - base.length = i + 1 := by omega
  rw [e, List.getElem?_cons_succ, List.getElem?_map, h]
  rfl
theorem tab_lt {base : Store} {tabs : List (List PV)} {k : Nat} {o : Ob} (h : base[k]? = some o) : (tabSt base tabs)[k]? = some o := getO h _
theorem tab_len (base : Store) (tabs : List (List PV)) : (tabSt base tabs).length = base.length + 1 + tabs.length := by simp [tabSt]; omega
theorem tab_new {base : Store} {tabs : List (List PV)} (hl : tabs.length < 16777216) : mAppend (.obj base.length) [.obj (tabSt base tabs).length] (tabSt base tabs ++ [.lst []]) = .ok .non (tabSt base (tabs ++ [[]])) := by
  rw [append_ok (getO (tab_get base tabs) _) (by rw [refs_len]; exact hl), tab_len]
  unfold tabSt
  rw [List.append_assoc, List.cons_append, setL rfl, List.length_append, List.length_singleton, refs_succ]
  simp
theorem tab_app {base : Store} {T : List (List PV)} {E : List PV} {x : PV} (hl : E.length < 16777216) : mAppend (.obj (base.length + 1 + T.length)) [x] (tabSt base (T ++ [E])) = .ok .non (tabSt base (T ++ [E ++ [x]])) := by
  rw [append_ok (tab_sub (i := T.length) (es := E) (by simp)) hl]
  unfold tabSt
  congr 1
  have e1 : ((T ++ [E]).map Ob.lst) = T.map Ob.lst ++ [.lst E] := by simp
  have e2 : ((T ++ [E ++ [x]]).map Ob.lst) = T.map Ob.lst ++ [.lst (E ++ [x])] := by simp
  have e3 : (T ++ [E]).length = (T ++ [E ++ [x]]).length := by simp
  rw [e1, e2, e3]
  have e4 : ∀ y : Ob, base ++ .lst (refs base.length (T ++ [E ++ [x]]).length) :: (T.map Ob.lst ++ [y]) = (base ++ .lst (refs base.length (T ++ [E ++ [x]]).length) :: T.map Ob.lst) ++ [y] := fun y => by simp
  rw [e4, e4, set_last (by simp; omega)]
theorem tab_last (base : Store) (T : List (List PV)) (E : List PV) : getItemP (.obj base.length) (.int (-1)) (tabSt base (T ++ [E])) = .ok (.obj (base.length + 1 + T.length)) (tabSt base (T ++ [E])) :=
  get_obj (tab_get base _) (by rw [List.length_append, List.length_singleton, refs_succ]; exact at_last)
/-- what is asked of a table's entries -/
structure EntOk {α : Type} (D : Prg) (n : Nat) (f : Str) (pv : α → PV) (row : α → Str) (la : α → Int) (m : Nat) (w : List (List α)) : Prop where
  len : ∀ es ∈ w, es.length = m
  read : ∀ es ∈ w, ∀ k e, es[k]? = some e → ∀ st, D n f [.str (row e), .int (k : Nat)] st = .ok (pv e) st
  non : ∀ e, pv e ≠ .non
  last : ∀ e st, getItemP (pv e) (.int (-1)) st = .ok (.int (la e)) st
  small : ∀ es ∈ w, ∀ e ∈ es, la e < w.length
  free : ∀ es ∈ w, ∀ e ∈ es, (10 : Nat) ∉ cl (row e)
  rlen : ∀ es ∈ w, ∀ e ∈ es, (row e).length ≤ 2000
  bound : ∀ e n, (pv e).bound n = true
theorem check_whole_ok [F : Fn D ("check_whole" : Str) 4 6 b_check_whole] {α : Type} {n m : Nat} {f : Str} {pv : α → PV} {row : α → Str} {la : α → Int} {w : List (List α)} {c : PV} {base : Store} (h : EntOk D n f pv row la m w) (hne : w ≠ []) {q : Nat} (hl : w.length ≤ 1000) :
    D (q + 1) ("check_whole" : Str) [.obj base.length, c, .bl true, .int m] (tabSt base (w.map (·.map pv))) = .ok .non (tabSt base (w.map (·.map pv))) := by
  refine fn_pureN [some (.obj base.length), some c, some (.bl true), some (.int m), none, none] (by rfl) ?_
  unfold b_check_whole
  generalize hS : tabSt base (w.map (·.map pv)) = S
  have g0 : S[base.length]? = some (.lst (refs base.length w.length)) := by rw [← hS, tab_get]; simp
  have ln : bLen [.obj base.length] S = .ok (.int w.length) S := by rw [len_obj g0, refs_len]
  have hlast : ∃ T E, w = T ++ [E] := ⟨w.dropLast, w.getLast hne, (List.dropLast_concat_getLast hne).symm⟩
  obtain ⟨T, E, hTE⟩ := hlast
  have hEm : E.length = m := h.len E (by rw [hTE]; simp)
  have gl : getItemP (.obj base.length) (.int (-1)) S = .ok (.obj (base.length + 1 + T.length)) S := by
    have := tab_last base (T.map (·.map pv)) (E.map pv)
    rw [← hS, hTE]
    simpa using this
  have gE : S[base.length + 1 + T.length]? = some (.lst (E.map pv)) := by
    rw [← hS]
    refine tab_sub ?_
    rw [List.getElem?_map, hTE]
    simp
  have tr : truth (.obj base.length) S = .ok true S := by
    unfold truth
    simp only [g0]
    have : (refs base.length w.length) ≠ [] := fun z => by
      have := congrArg List.length z
      rw [refs_len] at this
      exact hne (List.length_eq_zero_iff.mp this)
    cases hr : refs base.length w.length with
    | nil => exact absurd hr this
    | cons a b => rfl
  refine P_if0 (st' := S) ?_ (P_if0 (st' := S) ?_ (P_next ⟨.inl ⟨_, rfl⟩, [], by simp⟩))
  · refine (or_f (not_ok (b := true) (truth_ok (var_ok rfl)))).trans ((or_f (not_ok (b := true) ((show cTruth (cVar 0) [some (.obj base.length), some c, some (.bl true), some (.int m), none, none] S = .ok true S from by rw [run_truth, var_ok rfl]; exact tr)))).trans ?_)
    refine test_ok ((bin_ok ((app_ok (args1 ((bin_ok (var_ok rfl) (un_ok cst)).trans gl))).trans (len_obj gE)) (var_ok rfl)).trans ?_)
    rw [lt_ii]
    simp [hEm]
  · refine truth_ok (cGx2_ok (p := (refs base.length w.length, [(base.length, refs base.length w.length)])) (wVal_ok (var_ok rfl) (items_obj g0)) ?_)
    refine gx2_same (gd_one' g0) _ fun x hx => ?_
    unfold refs at hx
    obtain ⟨i, hi, rfl⟩ := List.mem_map.mp hx
    have hi := List.mem_range.mp hi
    have gi : S[base.length + 1 + i]? = some (.lst ((w[i]).map pv)) := by
      rw [← hS]
      exact tab_sub (by rw [List.getElem?_map, List.getElem?_eq_getElem hi]; rfl)
    refine ⟨_, ((w[i]).map pv, [(base.length + 1 + i, (w[i]).map pv)]), rfl, rfl, wVal_ok (var_ok rfl) (items_obj gi), ?_⟩
    refine gx_same (gd_one' gi) _ fun y hy => ?_
    obtain ⟨e, he, rfl⟩ := List.mem_map.mp hy
    refine ⟨_, rfl, rfl, ?_⟩
    have sm := h.small _ (List.getElem_mem hi) e he
    refine (bin_ok ((bin_ok (var_ok rfl) (un_ok cst)).trans (h.last e S)) ((app_ok (args1 (var_ok rfl))).trans ln)).trans ?_
    rw [ge_ii, decide_eq_false (by omega)]
    rfl
end PyI

/-! PyS9: tables read from texts, continued. -/
namespace PyI
open PySem Sh L2 TL
variable {D : Prg}
theorem callA_ok {i m : Nat} {y : Str} {fs : Ln} {env : EnvP} {st st1 st2 : Store} {xs : List PV} {d : PV} {n : Nat} (hi : env[i]? = some (some (.fn y))) (ha : D.ar y = some (m, [])) (h : fs env st = .ok xs st1) (hl : xs.length = m) (hF : D n y xs st1 = .ok d st2) : cCallA D.ar (D n) i fs env st = .ok d st2 := by
  unfold cCallA
  rw [hi]
  simp only [ha]
  exact call_ok' h hl hF
def stBody (ar : Ar) (cl : Cl) : Sm := sSeq (sAsg (cBin opMod (cVar 7) (cBin opAdd (cVar 1) (cC (.int (1))))) (.name 9)) (
   sSeq (sIf (cTest (cBin (opEqB false) (cVar 9) (cC (.int (0))))) (sSeq (sIf (cOrs [cTest (cBin (opEqB true) (cVar 8) (cC (.str ("state" : Str)))), cTest (cBin (opEqB false) (cApp bLen (cArgs [cVar 4])) (cVar 2))]) (sSeq (sFail) (sNext)) (sNext)) (
     sSeq (sDrop (cMet "list" mAppend (cVar 4) (cArgs [cKeep (cLst (cArgs []))]))) (sNext))) (sSeq (sAsg (cCallA ar cl 3 (cArgs [cVar 8, cBin opSub (cVar 9) (cC (.int (1)))])) (.name 10)) (
     sSeq (sIf (cTest (cBin (opIsN false) (cVar 10) (cC (.non)))) (sSeq (sFail) (sNext)) (sNext)) (
     sSeq (sDrop (cMet "list" mAppend (cBin getItemP (cVar 4) (cUn opNeg (cC (.int (1))))) (cArgs [cVar 10]))) (sNext))))) (sNext))
section
variable {α : Type} {n m most : Nat} {f : Str} {pv : α → PV} {row : α → Str} {la : α → Int} {w : List (List α)} {base : Store} {gd : Guard} {a r wh x11 : Option PV} {Q : QF}
theorem st_head {k j : Nat} {tabs : List (List PV)} {rest : List PV} {x7 x8 x9 x10 : Option PV} (hg : ∀ tabs, gdOk gd (tabSt base tabs) = true) (hk : k = (m + 1) * j) (hj : tabs.length = j) (hjm : j < most) (hm : most ≤ 1000)
    (q : ∀ x7 x8 x9 x10, (forLoop (.tup [.name 7, .name 8]) (stBody D.ar (D n)) gd rest [a, some (.int m), some (.int most), some (.fn f), some (.obj base.length), r, wh, x7, x8, x9, x10, x11] (tabSt base (tabs ++ [[]]))).P Q) :
    (forLoop (.tup [.name 7, .name 8]) (stBody D.ar (D n)) gd (.tup [.int k, .str ("state" : Str)] :: rest) [a, some (.int m), some (.int most), some (.fn f), some (.obj base.length), r, wh, x7, x8, x9, x10, x11] (tabSt base tabs)).P Q := by
  refine P_for1 (env1 := [a, some (.int m), some (.int most), some (.fn f), some (.obj base.length), r, wh, some (.int k), some (.str ("state" : Str)), x9, x10, x11]) rfl ?_
  unfold stBody
  have e0 : (k : Int) % ((m : Int) + 1) = 0 := by
    have : k % (m + 1) = 0 := by rw [hk]; exact Nat.mul_mod_right _ _
    have h2 : ((k % (m + 1) : Nat) : Int) = (k : Int) % ((m : Int) + 1) := by push_cast; rfl
    rw [← h2, this]; rfl
  refine P_asg (modI (var_ok rfl) (addI (var_ok rfl) cst rfl) (by omega) e0) ?_
  refine P_ift (test_ok (eqI (var_ok rfl) cst rfl)) ?_
  have ln : bLen [.obj base.length] (tabSt base tabs) = .ok (.int j) (tabSt base tabs) := by rw [len_obj (tab_get base tabs), refs_len, hj]
  refine P_if0 (st' := tabSt base tabs) ?_ ?_
  · refine (or_f (test_ok ((bin_ok (var_ok rfl) cst).trans (ne_ss.trans (by simp))))).trans (test_ok (eqI ((app_ok (args1 (var_ok rfl))).trans ln) (var_ok rfl) (b := false) (by simp; omega)))
  · refine P_drop ((met_ok (var_ok rfl) (getO (tab_get base tabs) [] |> fun z => by simpa using z) (args1 (keep_ok (lst_ok args_nil_ok (Nat.zero_le _))))).trans (tab_new (by omega))) (P_next (P_next ⟨hg _, q _ _ _ _⟩))
theorem st_entry {k j i : Nat} {e : α} {T : List (List PV)} {E : List PV} {rest : List PV} {x7 x8 x9 x10 : Option PV} (hg : ∀ tabs, gdOk gd (tabSt base tabs) = true) (hk : k = (m + 1) * j + 1 + i) (hi : i < m) (hE : E.length ≤ m) (hm : m ≤ 1000) (hr : ∀ st, D n f [.str (row e), .int (i : Nat)] st = .ok (pv e) st) (ha : D.ar f = some (2, [])) (hn : pv e ≠ .non)
    (q : ∀ x7 x8 x9 x10, (forLoop (.tup [.name 7, .name 8]) (stBody D.ar (D n)) gd rest [a, some (.int m), some (.int most), some (.fn f), some (.obj base.length), r, wh, x7, x8, x9, x10, x11] (tabSt base (T ++ [E ++ [pv e]]))).P Q) :
    (forLoop (.tup [.name 7, .name 8]) (stBody D.ar (D n)) gd (.tup [.int k, .str (row e)] :: rest) [a, some (.int m), some (.int most), some (.fn f), some (.obj base.length), r, wh, x7, x8, x9, x10, x11] (tabSt base (T ++ [E]))).P Q := by
  refine P_for1 (env1 := [a, some (.int m), some (.int most), some (.fn f), some (.obj base.length), r, wh, some (.int k), some (.str (row e)), x9, x10, x11]) rfl ?_
  unfold stBody
  have e0 : (k : Int) % ((m : Int) + 1) = ((1 + i : Nat) : Int) := by
    have : k % (m + 1) = 1 + i := by rw [hk, Nat.add_assoc, Nat.mul_add_mod]; exact Nat.mod_eq_of_lt (by omega)
    have h2 : ((k % (m + 1) : Nat) : Int) = (k : Int) % ((m : Int) + 1) := by push_cast; rfl
    rw [← h2, this]
  refine P_asg (modI (var_ok rfl) (addI (var_ok rfl) cst rfl) (by omega) e0) ?_
  refine P_iff (test_ok (eqI (var_ok rfl) cst (b := false) (by simp; omega))) ?_
  have e1 : ((1 + i : Nat) : Int) - 1 = (i : Nat) := by omega
  refine P_asg (callA_ok rfl ha (args2 (var_ok rfl) (subI (var_ok rfl) cst e1)) rfl (hr _)) ?_
  refine P_if0 (test_ok ((bin_ok (var_ok rfl) cst).trans (by rw [isN_ok, decide_eq_false hn]))) ?_
  refine P_drop (d := .non) (st' := tabSt base (T ++ [E ++ [pv e]])) ?_ (P_next (P_next ⟨hg _, q _ _ _ _⟩))
  exact (met_ok ((bin_ok (var_ok rfl) (un_ok cst)).trans (tab_last base T E)) (tab_sub (i := T.length) (es := E) (by simp)) (args1 (var_ok rfl))).trans (tab_app (by omega))
theorem st_row {k j : Nat} {tabs : List (List PV)} {rest : List PV} (hg : ∀ tabs, gdOk gd (tabSt base tabs) = true) (hk : k = (m + 1) * j) (hm : m ≤ 1000) (ha : D.ar f = some (2, [])) (hn : ∀ e, pv e ≠ .non)
    (es : List α) (hl : es.length = m) (hr : ∀ i e, es[i]? = some e → ∀ st, D n f [.str (row e), .int (i : Nat)] st = .ok (pv e) st)
    (q : ∀ x7 x8 x9 x10, (forLoop (.tup [.name 7, .name 8]) (stBody D.ar (D n)) gd rest [a, some (.int m), some (.int most), some (.fn f), some (.obj base.length), r, wh, x7, x8, x9, x10, x11] (tabSt base (tabs ++ [es.map pv]))).P Q) :
    ∀ (po pr : List α), es = pr ++ po → ∀ x7 x8 x9 x10, (forLoop (.tup [.name 7, .name 8]) (stBody D.ar (D n)) gd (itemsOf (k + 1 + pr.length) (po.map row) ++ rest) [a, some (.int m), some (.int most), some (.fn f), some (.obj base.length), r, wh, x7, x8, x9, x10, x11] (tabSt base (tabs ++ [pr.map pv]))).P Q
  | [], pr, he, x7, x8, x9, x10 => by
    rw [List.append_nil] at he
    subst he
    exact q x7 x8 x9 x10
  | e :: po, pr, he, x7, x8, x9, x10 => by
    obtain ⟨_, hgt, hlt⟩ := split_mem he
    rw [List.map_cons, items_cons, List.cons_append]
    refine st_entry (j := j) (i := pr.length) hg (by omega) (by omega) (by simp; omega) hm (hr _ _ hgt) ha (hn e) fun y7 y8 y9 y10 => ?_
    have := st_row hg hk hm ha hn es hl hr q po (pr ++ [e]) (by rw [he]; simp) y7 y8 y9 y10
    simpa [Nat.add_assoc] using this
theorem st_loop (hg : ∀ tabs, gdOk gd (tabSt base tabs) = true) (h : EntOk D n f pv row la m w) (ha : D.ar f = some (2, [])) (hm : m ≤ 1000) (hmost : w.length ≤ most) (hmm : most ≤ 1000)
    (q : ∀ x7 x8 x9 x10, Q (.nx [a, some (.int m), some (.int most), some (.fn f), some (.obj base.length), r, wh, x7, x8, x9, x10, x11]) (tabSt base (w.map (·.map pv)))) :
    ∀ (w2 w1 : List (List α)), w = w1 ++ w2 → ∀ x7 x8 x9 x10, (forLoop (.tup [.name 7, .name 8]) (stBody D.ar (D n)) gd (itemsOf ((m + 1) * w1.length) (rowsOf row w2)) [a, some (.int m), some (.int most), some (.fn f), some (.obj base.length), r, wh, x7, x8, x9, x10, x11] (tabSt base (w1.map (·.map pv)))).P Q
  | [], w1, hw, x7, x8, x9, x10 => by
    rw [List.append_nil] at hw
    subst hw
    exact P_for0 (q x7 x8 x9 x10)
  | es :: w2, w1, hw, x7, x8, x9, x10 => by
    obtain ⟨hmem, _, hlt⟩ := split_mem hw
    have hel := h.len es hmem
    have er : rowsOf row (es :: w2) = ("state" : Str) :: (es.map row ++ rowsOf row w2) := rfl
    rw [er, items_cons, items_append]
    refine st_head (j := w1.length) hg rfl (by simp) (by omega) hmm fun y7 y8 y9 y10 => ?_
    refine st_row (k := (m + 1) * w1.length) (j := w1.length) (tabs := w1.map (·.map pv)) hg rfl hm ha h.non es hel (fun i e he => h.read es hmem i e he) (fun z7 z8 z9 z10 => ?_) es [] rfl y7 y8 y9 y10
    have := st_loop hg h ha hm hmost hmm q w2 (w1 ++ [es]) (by rw [hw]; simp) z7 z8 z9 z10
    have e1 : (m + 1) * (w1 ++ [es]).length = (m + 1) * w1.length + 1 + (es.map row).length := by rw [List.length_append, List.length_singleton, Nat.mul_add, List.length_map, hel]; omega
    rw [e1] at this
    simpa using this
end
theorem read_state_table_ok [F1 : Fn D ("text_rows" : Str) 1 2 b_text_rows] [F2 : Fn D ("check_whole" : Str) 4 6 b_check_whole] [F : Fn D ("read_state_table" : Str) 4 12 b_read_state_table] {α : Type} {n m most : Nat} {f : Str} {pv : α → PV} {row : α → Str} {la : α → Int} {w : List (List α)} {st : Store}
    (h : EntOk D (n + 1) f pv row la m w) (ha : D.ar f = some (2, [])) (hne : w ≠ []) (hmost : w.length ≤ most) (hl : most ≤ 100) (hm : m ≤ 40) :
    D (n + 2) ("read_state_table" : Str) [.str (txt (rowsOf row w)), .int m, .int most, .fn f] st = .ok (encT (encT pv) w) st := by
  have rl : (rowsOf row w).length ≤ 5000 := by
    rw [rows_length h.len]
    have := Nat.mul_le_mul (show m + 1 ≤ 41 by omega) (show w.length ≤ 100 by omega)
    omega
  have mem : ∀ {P : Str → Prop}, P ("state" : Str) → (∀ es ∈ w, ∀ e ∈ es, P (row e)) → ∀ r ∈ rowsOf row w, P r := fun hs he r hr => by
    obtain ⟨es, hes, hr⟩ := List.mem_flatMap.mp hr
    rcases List.mem_cons.mp hr with rfl | hr
    · exact hs
    · obtain ⟨e, h1, rfl⟩ := List.mem_map.mp hr
      exact he es hes e h1
  have tr := text_rows_ok (D := D) (n := n) (rows := rowsOf row w) (st := st) (mem (P := fun r => (10 : Nat) ∉ cl r) (by decide +kernel) h.free) (mem (P := fun r => r.length ≤ 2000) (by decide +kernel) h.rlen) (by omega)
  refine fn_pure [some (.str (txt (rowsOf row w))), some (.int m), some (.int most), some (.fn f), none, none, none, none, none, none, none, none] (by rfl) (bound_encT (fun r => bound_encT (fun e => h.bound e _) _) _) ?_
  unfold b_read_state_table
  refine P_asgT (call_ok' (args1 (var_ok rfl)) rfl tr) (env' := [some (.str (txt (rowsOf row w))), some (.int m), some (.int most), some (.fn f), none, some (.obj (st.length + 1)), some (.bl true), none, none, none, none, none]) rfl ?_
  generalize hA : Ob.lst ((rowsOf row w ++ [("" : Str)]).map PV.str) = A
  generalize hB : st ++ [A, .lst ((rowsOf row w).map PV.str)] = base
  have lb : base.length = st.length + 2 := by rw [← hB]; simp
  have g1 : base[st.length + 1]? = some (.lst ((rowsOf row w).map PV.str)) := by rw [← hB, List.getElem?_append_right (by omega)]; simp
  refine P_new ?_
  have e0 : base ++ [Ob.lst []] = tabSt base [] := rfl
  rw [e0]
  refine P_sFor (p := (itemsOf ((m + 1) * ([] : List (List α)).length) (rowsOf row w), [(st.length + 1, (rowsOf row w).map PV.str)])) (st1 := tabSt base []) ?_ ?_
  · unfold wEnum
    rw [bind_ok (var_ok rfl), bind_ok (show listP (.obj (st.length + 1)) (tabSt base []) = .ok ((rowsOf row w).map PV.str, [(st.length + 1, (rowsOf row w).map PV.str)]) (tabSt base []) by unfold listP; simp only [tab_lt g1])]
    rfl
  · refine st_loop (fun tabs => gd_one' (tab_lt g1)) h ha (by omega) hmost (by omega) (fun x7 x8 x9 x10 => ?_) w [] rfl none none none none
    have g2 : (tabSt base (w.map (·.map pv)))[st.length + 1]? = some (.lst ((rowsOf row w).map PV.str)) := tab_lt g1
    have g0 := tab_get base (w.map (·.map pv))
    rw [List.length_map] at g0
    refine P_drop (call_ok' (args_cons_ok (var_ok rfl) (args3 ((app_ok (args1 (var_ok rfl))).trans (len_obj g2)) (var_ok rfl) (var_ok rfl))) rfl (check_whole_ok h hne (by omega))) ?_
    refine P_ret ((app_ok (comp_ok2 (ys := w.map (encT pv)) (wVal_ok (var_ok rfl) (items_obj g0)) (gd_one' g0) (by have : sizeLine = 2 ^ 24 := rfl; rw [refs_len]; omega) ?_)).trans rfl) ⟨rfl, ?_⟩
    · generalize hS : tabSt base (w.map (·.map pv)) = S
      have key : ∀ i, (hi : i < w.length) → bTuple [.obj (base.length + 1 + i)] S = .ok (encT pv (w[i])) S := fun i hi => by
        rw [← hS]
        exact tuple_obj (tab_sub (by rw [List.getElem?_map, List.getElem?_eq_getElem hi]; rfl))
      have ew : w.map (encT pv) = (List.range w.length).map fun i => if hi : i < w.length then encT pv (w[i]) else .non := by
        refine List.ext_getElem (by simp) fun i h1 h2 => ?_
        simp only [List.length_map] at h1
        simp [h1]
      rw [ew]
      unfold refs
      refine All2.map fun i hi => ⟨_, rfl, rfl, ?_⟩
      have hi := List.mem_range.mp hi
      rw [dif_pos hi]
      exact (app_ok (args1 (var_ok rfl))).trans (key i hi)
    · rw [← hB]
      unfold tabSt
      rw [List.append_assoc]
      exact ⟨_, rfl⟩
end PyI

/-! PyS10: entries, rules, editions read from texts. -/
namespace PyI
open PySem Sh L2 TL
variable {D : Prg}
/-! ### words of a row -/
theorem word_free {ws : List Str} {c : Nat} (h : ∀ w ∈ ws, (cl w).all (fun x => decide (45 ≤ x)) = true) (hc : c < 45) : ∀ w ∈ ws, c ∉ cl w := fun w hw z => by
  have := List.all_eq_true.mp (h w hw) c z
  simp at this
  omega
theorem nt_all (v : Nat) : (cl (nt v)).all (fun x => decide (45 ≤ x)) = true := by
  rw [cl_nt, List.all_eq_true]
  intro x hx
  have := numL_digits v x hx
  exact decide_eq_true (by omega)
/-- words = row.split(" ") -/
theorem P_words {i j : Nat} {ws : List Str} {rest : Sm} {env : EnvP} {st : Store} {Q : QF} (hv : env[j]? = some (some (.str (row ws)))) (hne : ws ≠ []) (hf : ∀ w ∈ ws, (cl w).all (fun x => decide (45 ≤ x)) = true) (hl : ∀ w ∈ ws, w.length ≤ 100) (hn : ws.length ≤ 100)
    (k : (rest (env.set i (some (.obj st.length))) (st ++ [.lst (ws.map PV.str)])).P Q) : (sSeq (sAsg (cKeep (cSplit (cVar j) (cC (.str (" " : Str))))) (.name i)) rest env st).P Q := by
  have h1 := row_len_le hl
  have h2 : (100 + 1) * ws.length ≤ 10100 := Nat.mul_le_mul_left 101 hn
  have := split_ok (fo := cVar j) (fa := cC (.str (" " : Str))) (env := env) (st := st) (s := row ws) (b := (" " : Str)) (var_ok hv) c_ok (by decide +kernel) (by have : sizeLine = 2 ^ 24 := rfl; omega)
  rw [split_row hne (word_free hf (by decide))] at this
  exact P_asg (keep_ok this) k
theorem word_at {ws : List Str} {st : Store} {i : Nat} {w : Str} (h : ws[i]? = some w) : getItemP (.obj st.length) (.int (i : Nat)) (st ++ [.lst (ws.map PV.str)]) = .ok (.str w) (st ++ [.lst (ws.map PV.str)]) :=
  get_obj (getL rfl) (at_nat (by rw [List.getElem?_map, h]; rfl))
theorem words_n {ws : List Str} {st : Store} : bLen [.obj st.length] (st ++ [.lst (ws.map PV.str)]) = .ok (.int ws.length) (st ++ [.lst (ws.map PV.str)]) := by
  rw [len_obj (getL rfl)]
  simp
theorem pds_strs (l : List Str) : pdsOf (l.map PV.str) = some (l.map PyData.str) := pds_map (fun _ => rfl) l
theorem depth_strs (l : List Str) : PyData.depthAll (l.map PyData.str) ≤ 0 := depthA (fun _ => by simp [PyData.depth]) l
theorem any_strs {a : Str} (l : List Str) : (l.map PyData.str).any (fun y => PyData.eqv y (.str a)) = decide (a ∈ l) := by
  rw [List.any_map]
  induction l with
  | nil => rfl
  | cons x r ih =>
    rw [List.any_cons, ih]
    by_cases h : x = a
    · subst h; simp [PyData.eqv]
    · have : (PyData.eqv (.str x) (.str a)) = false := by simp [PyData.eqv, h]
      simp [this, Ne.symm h]
theorem in_ctup {neg : Bool} {a : Str} {l : List Str} {st : Store} : opInB neg (.str a) (.ctup (l.map PV.str)) st = .ok (.bl (if neg then !decide (a ∈ l) else decide (a ∈ l))) st := by
  have hd : min (PyData.depthAll (l.map PyData.str)) (PyData.str a).depth ≤ 62 := by have := depth_strs l; omega
  show (match pdAt st (.str a), pdAt st (.ctup (l.map PV.str)) with
    | some p, some (.list qs) => if min (PyData.depthAll qs) p.depth ≤ 62 then Res.ok (PV.bl (if neg then !qs.any (fun y => PyData.eqv y p) else qs.any (fun y => PyData.eqv y p))) st else .no
    | some p, some (.tuple qs) => if min (PyData.depthAll qs) p.depth ≤ 62 then .ok (.bl (if neg then !qs.any (fun y => PyData.eqv y p) else qs.any (fun y => PyData.eqv y p))) st else .no
    | _, _ => .no) = _
  have e2 : pdAt st (.ctup (l.map PV.str)) = some (.tuple (l.map PyData.str)) := by show (pdsOf _).map _ = _; rw [pds_strs]; rfl
  rw [show pdAt st (.str a) = some (.str a) from rfl, e2]
  simp only [if_pos hd, any_strs]
theorem in_tup {neg : Bool} {a : Str} {l : List Str} {st : Store} : opInB neg (.str a) (.tup (l.map PV.str)) st = .ok (.bl (if neg then !decide (a ∈ l) else decide (a ∈ l))) st := by
  have hd : min (PyData.depthAll (l.map PyData.str)) (PyData.str a).depth ≤ 62 := by have := depth_strs l; omega
  show (match pdAt st (.str a), pdAt st (.tup (l.map PV.str)) with
    | some p, some (.list qs) => if min (PyData.depthAll qs) p.depth ≤ 62 then Res.ok (PV.bl (if neg then !qs.any (fun y => PyData.eqv y p) else qs.any (fun y => PyData.eqv y p))) st else .no
    | some p, some (.tuple qs) => if min (PyData.depthAll qs) p.depth ≤ 62 then .ok (.bl (if neg then !qs.any (fun y => PyData.eqv y p) else qs.any (fun y => PyData.eqv y p))) st else .no
    | _, _ => .no) = _
  have e2 : pdAt st (.tup (l.map PV.str)) = some (.tuple (l.map PyData.str)) := by show (pdsOf _).map _ = _; rw [pds_strs]; rfl
  rw [show pdAt st (.str a) = some (.str a) from rfl, e2]
  simp only [if_pos hd, any_strs]
theorem get_ctup {st : Store} {xs : List PV} {i : Int} {d : PV} (hd : L2.atI xs i = some d) : getItemP (.ctup xs) (.int i) st = .ok d st := by
  simp [getItemP, hd]
theorem yes_eq (b : Bool) : (yesS b == ("yes" : Str)) = b := by cases b <;> decide +kernel
theorem yes_in (b : Bool) : decide (yesS b ∈ (["yes", "no"] : List Str)) = true := by cases b <;> decide +kernel
def DEEDSL : List (List Str) := [["none", "move", "bare", "wipe"], ["none", "move", "bare", "wipe"], ["none", "move", "bare", "wipe"], ["none", "mark", "wipe"], ["none", "wipe"], ["none", "wipe"]]
theorem deeds_at {k : Nat} (h : k < 6) : DEEDSL[k]? = some (wdeeds k) := by
  have : k = 0 ∨ k = 1 ∨ k = 2 ∨ k = 3 ∨ k = 4 ∨ k = 5 := by omega
  rcases this with rfl | rfl | rfl | rfl | rfl | rfl <;> rfl
theorem or_f3 {a b c d : Tn} {env : EnvP} {st : Store} (h1 : a env st = .ok false st) (h2 : b env st = .ok false st) (h3 : c env st = .ok false st) (h4 : d env st = .ok false st) : cOrs [a, b, c, d] env st = .ok false st := (or_f h1).trans ((or_f h2).trans ((or_f h3).trans h4))
theorem read_window_entry_ok [F1 : Fn D ("read_number" : Str) 3 5 b_read_number] [F : Fn D ("read_window_entry" : Str) 2 4 b_read_window_entry] {n k N : Nat} {e : WE} {st : Store} (h : e.Ok N k) (hN : N ≤ 5) (hk : k < 6) : D (n + 2) ("read_window_entry" : Str) [.str e.row, .int k] st = .ok e.pv st := by
  refine fn_pure [some (.str e.row), some (.int k), none, none] (by rfl) (WE.bound _ _) ?_
  unfold b_read_window_entry
  have := h.s0; have := h.s1; have hd := wdeed_len h.d
  have dall : (cl e.d).all (fun x => decide (45 ≤ x)) = true := by
    have hm := h.d
    unfold wdeeds at hm
    split at hm
    · simp only [List.mem_cons, List.not_mem_nil, or_false] at hm
      rcases hm with e | e | e | e <;> rw [e] <;> decide +kernel
    · split at hm
      · simp only [List.mem_cons, List.not_mem_nil, or_false] at hm
        rcases hm with e | e | e <;> rw [e] <;> decide +kernel
      · simp only [List.mem_cons, List.not_mem_nil, or_false] at hm
        rcases hm with e | e <;> rw [e] <;> decide +kernel
  have yall : ∀ b, (cl (yesS b)).all (fun x => decide (45 ≤ x)) = true := fun b => by cases b <;> decide +kernel
  refine P_words (ws := e.ws) rfl (by simp [WE.ws]) (fun w hw => ?_) (fun w hw => by have := WE.ws_len h (by omega) w hw; omega) (by simp [WE.ws]) ?_
  · simp only [WE.ws, List.mem_cons, List.not_mem_nil, or_false] at hw
    rcases hw with rfl | rfl | rfl | rfl
    · exact yall _
    · exact yall _
    · exact dall
    · exact nt_all _
  generalize hS : st ++ [Ob.lst (e.ws.map PV.str)] = S
  have w0 := word_at (ws := e.ws) (st := st) (i := 0) rfl
  have w1 := word_at (ws := e.ws) (st := st) (i := 1) rfl
  have w2 := word_at (ws := e.ws) (st := st) (i := 2) rfl
  have w3 := word_at (ws := e.ws) (st := st) (i := 3) rfl
  have wn := words_n (ws := e.ws) (st := st)
  rw [hS] at w0 w1 w2 w3 wn
  have rn := rn_ok (D := D) (m := n) (v := e.s.toNat) (lo := 0) (hi := 4) (st := S) (by omega) (by omega) (by omega)
  have es : ((e.s.toNat : Nat) : Int) = e.s := by omega
  rw [es] at rn
  have dk : getItemP (.ctup (DEEDSL.map fun l => PV.ctup (l.map PV.str))) (.int (k : Nat)) S = .ok (.ctup ((wdeeds k).map PV.str)) S := get_ctup (at_nat (by rw [List.getElem?_map, deeds_at hk]; rfl))
  have yi := in_tup (neg := true) (a := yesS e.t) (l := ["yes", "no"]) (st := S)
  have yi2 := in_tup (neg := true) (a := yesS e.f) (l := ["yes", "no"]) (st := S)
  rw [yes_in] at yi yi2
  have di := in_ctup (neg := true) (a := e.d) (l := wdeeds k) (st := S)
  rw [decide_eq_true h.d] at di
  refine P_if0 (st' := S) ?_ ?_
  · exact or_f3 (test_ok (eqI ((app_ok (args1 (var_ok rfl))).trans wn) cst rfl)) (test_ok ((bin_ok ((bin_ok (var_ok rfl) cst).trans w0) (tup_ok (args2 cst cst) (show 2 ≤ sizeLine by decide))).trans yi)) (test_ok ((bin_ok ((bin_ok (var_ok rfl) cst).trans w1) (tup_ok (args2 cst cst) (show 2 ≤ sizeLine by decide))).trans yi2)) (test_ok ((bin_ok ((bin_ok (var_ok rfl) cst).trans w2) ((bin_ok cst (var_ok rfl)).trans dk)).trans di))
  · refine P_asg (call_ok' (args3 ((bin_ok (var_ok rfl) cst).trans w3) cst cst) rfl rn) ?_
    refine P_if0 (test_ok ((bin_ok (var_ok rfl) cst).trans isN_ok)) ?_
    have q0 : opEqB false (.str (yesS e.t)) (.str ("yes" : Str)) S = .ok (.bl e.t) S := by rw [eq_ss, yes_eq]
    have q1 : opEqB false (.str (yesS e.f)) (.str ("yes" : Str)) S = .ok (.bl e.f) S := by rw [eq_ss, yes_eq]
    exact P_ret (tup_ok (args_cons_ok ((bin_ok ((bin_ok (var_ok rfl) cst).trans w0) cst).trans q0) (args3 ((bin_ok ((bin_ok (var_ok rfl) cst).trans w1) cst).trans q1) ((bin_ok (var_ok rfl) cst).trans w2) (var_ok rfl))) (show 4 ≤ sizeLine by decide)) ⟨rfl, _, hS.symm⟩
def HDEEDSL : List (List Str) := [["ignore", "open"], ["ignore", "anew", "front", "drop"], ["ignore", "open"], ["ignore", "anew", "front", "drop"], ["ignore", "open"]]
theorem hdeeds_at {k : Nat} (h : k < 5) : HDEEDSL[k]? = some (hdeeds k) := by
  have : k = 0 ∨ k = 1 ∨ k = 2 ∨ k = 3 ∨ k = 4 := by omega
  rcases this with rfl | rfl | rfl | rfl | rfl <;> rfl
theorem hdeed_all {k : Nat} {d : Str} (hm : d ∈ hdeeds k) : (cl d).all (fun x => decide (45 ≤ x)) = true := by
  unfold hdeeds at hm
  split at hm
  · simp only [List.mem_cons, List.not_mem_nil, or_false] at hm
    rcases hm with e | e | e | e <;> rw [e] <;> decide +kernel
  · simp only [List.mem_cons, List.not_mem_nil, or_false] at hm
    rcases hm with e | e <;> rw [e] <;> decide +kernel
theorem read_hello_entry_ok [F1 : Fn D ("read_number" : Str) 3 5 b_read_number] [F : Fn D ("read_hello_entry" : Str) 2 4 b_read_hello_entry] {n k N : Nat} {e : HE} {st : Store} (h : e.Ok N k) (hN : N ≤ 4) (hk : k < 5) : D (n + 2) ("read_hello_entry" : Str) [.str e.row, .int k] st = .ok e.pv st := by
  refine fn_pure [some (.str e.row), some (.int k), none, none] (by rfl) (HE.bound _ _) ?_
  unfold b_read_hello_entry
  have := h.s0; have := h.s1; have hd := hdeed_len h.d
  refine P_words (ws := e.ws) rfl (by simp [HE.ws]) (fun w hw => ?_) (fun w hw => by have := HE.ws_len h (by omega) w hw; omega) (by simp [HE.ws]) ?_
  · simp only [HE.ws, List.mem_cons, List.not_mem_nil, or_false] at hw
    rcases hw with rfl | rfl
    · exact hdeed_all h.d
    · exact nt_all _
  generalize hS : st ++ [Ob.lst (e.ws.map PV.str)] = S
  have w0 := word_at (ws := e.ws) (st := st) (i := 0) rfl
  have w1 := word_at (ws := e.ws) (st := st) (i := 1) rfl
  have wn := words_n (ws := e.ws) (st := st)
  rw [hS] at w0 w1 wn
  have rn := rn_ok (D := D) (m := n) (v := e.s.toNat) (lo := 0) (hi := 3) (st := S) (by omega) (by omega) (by omega)
  have es : ((e.s.toNat : Nat) : Int) = e.s := by omega
  rw [es] at rn
  have dk : getItemP (.ctup (HDEEDSL.map fun l => PV.ctup (l.map PV.str))) (.int (k : Nat)) S = .ok (.ctup ((hdeeds k).map PV.str)) S := get_ctup (at_nat (by rw [List.getElem?_map, hdeeds_at hk]; rfl))
  have di := in_ctup (neg := true) (a := e.d) (l := hdeeds k) (st := S)
  rw [decide_eq_true h.d] at di
  refine P_if0 (st' := S) ?_ ?_
  · exact (or_f (test_ok (eqI ((app_ok (args1 (var_ok rfl))).trans wn) cst rfl))).trans (test_ok ((bin_ok ((bin_ok (var_ok rfl) cst).trans w0) ((bin_ok cst (var_ok rfl)).trans dk)).trans di))
  · refine P_asg (call_ok' (args3 ((bin_ok (var_ok rfl) cst).trans w1) cst cst) rfl rn) ?_
    refine P_if0 (test_ok ((bin_ok (var_ok rfl) cst).trans isN_ok)) ?_
    exact P_ret (tup_ok (args2 ((bin_ok (var_ok rfl) cst).trans w0) (var_ok rfl)) (show 2 ≤ sizeLine by decide)) ⟨rfl, _, hS.symm⟩
end PyI

/-! PyS11: editions read from texts. -/
namespace PyI
open PySem Sh L2 TL
variable {D : Prg}
theorem bin_snoc (l : List Nat) (c : Nat) : Bn.binNum (l ++ [c]) = Bn.binNum l * 2 + (c - 48) := by unfold Bn.binNum; rw [List.foldl_append]; rfl
theorem bin_word : ∀ (l b : Nat), b < 2 ^ l → Bn.binNum ((List.range l).map fun i => 48 + bitOf l b i) = b
  | 0, b, h => by have : b = 0 := by simpa using h
                  subst this; rfl
  | l + 1, b, h => by
    rw [List.range_succ, List.map_append, List.map_singleton, bin_snoc]
    have e1 : (List.range l).map (fun i => 48 + bitOf (l + 1) b i) = (List.range l).map fun i => 48 + bitOf l (b / 2) i := by
      refine List.map_congr_left fun i hi => ?_
      have hi := List.mem_range.mp hi
      unfold bitOf
      have e : l + 1 - 1 - i = (l - 1 - i) + 1 := by omega
      rw [e, Nat.pow_succ, Nat.mul_comm, ← Nat.div_div_eq_div_mul]
    rw [e1, bin_word l (b / 2) (by rw [Nat.pow_succ] at h; omega)]
    unfold bitOf
    simp
    omega
theorem pword_bits {p : PX} (h : 0 < p.l) : ∀ c ∈ cl (pword p), c = 48 ∨ c = 49 := by
  intro c hc
  rw [pword_cl h] at hc
  obtain ⟨i, _, rfl⟩ := List.mem_map.mp hc
  have := bit_lt p.l p.b i
  omega
theorem pword_all (p : PX) : (cl (pword p)).all (fun x => decide (45 ≤ x)) = true := by
  by_cases h0 : p.l = 0
  · unfold pword
    rw [if_pos h0]
    decide +kernel
  · rw [List.all_eq_true]
    intro c hc
    have := pword_bits (by omega) c hc
    exact decide_eq_true (by omega)
theorem read_prefix_ok [F : Fn D ("read_prefix" : Str) 2 3 b_read_prefix] {n bits : Nat} {p : PX} {st : Store} (hl : p.l ≤ bits) (hb : bits ≤ 100) (hp : p.b < 2 ^ p.l) : D (n + 1) ("read_prefix" : Str) [.str (pword p), .int bits] st = .ok p.pv st := by
  refine fn_pure [some (.str (pword p)), some (.int bits), none] (by rfl) (PX.bound _ _) ?_
  unfold b_read_prefix
  by_cases h0 : p.l = 0
  · have e : pword p = "-" := by unfold pword; rw [if_pos h0]
    have hb0 : p.b = 0 := by rw [h0] at hp; simpa using hp
    refine P_ift (test_ok ((bin_ok (var_ok rfl) cst).trans (eqS_ok (by rw [e]; simp)))) (P_ret (tup_ok (args2 cst cst) (show 2 ≤ sizeLine by decide)) ⟨?_, [], by simp⟩)
    unfold PX.pv
    rw [h0, hb0]
    rfl
  · have hc := pword_cl (p := p) (by omega)
    have hlen : (pword p).length = p.l := by rw [cl_len, hc]; simp
    have hbit := pword_bits (p := p) (by omega)
    have ne : (pword p == ("-" : Str)) = false := by
      cases q : (pword p == ("-" : Str)) with
      | false => rfl
      | true =>
        have := congrArg cl (eq_of_beq q)
        rw [hc, show cl ("-" : Str) = [45] from by decide +kernel] at this
        have h45 : (45 : Nat) ∈ (List.range p.l).map fun i => 48 + bitOf p.l p.b i := by rw [this]; simp
        rw [← hc] at h45
        have := hbit 45 h45
        omega
    have ne0 : (pword p == ("" : Str)) = false := by
      cases q : (pword p == ("" : Str)) with
      | false => rfl
      | true =>
        have := congrArg cl (eq_of_beq q)
        rw [hc, show cl ("" : Str) = [] from by decide +kernel] at this
        have := congrArg List.length this
        simp at this
        omega
    have sg : signsB false (sgNot ("01" : Str)) (pword p) = false := by
      unfold signsB
      rw [if_neg (by decide), List.any_eq_false]
      intro c hc
      rcases hbit c hc with rfl | rfl <;> decide +kernel
    have hz : (pword p).length ≤ sizeLine := by have : sizeLine = 2 ^ 24 := rfl; omega
    refine P_if0 (test_ok ((bin_ok (var_ok rfl) cst).trans (eqS_ok ne))) (P_if0 (st' := st) ?_ (P_ret (d := p.pv) (st' := st) (tup_ok (args2 (st1 := st) ?_ ?_) (show 2 ≤ sizeLine by decide)) ⟨rfl, [], by simp⟩))
    · refine (or_f (test_ok ((bin_ok (var_ok rfl) cst).trans (eqS_ok ne0)))).trans ((or_f (test_ok ((bin_ok (app_ok (args1 (var_ok rfl)) |>.trans (lenS_ok hz)) (var_ok rfl)).trans (gtI_ok (decide_eq_false (by omega)))))).trans (truth_ok ?_))
      rw [run_signs, var_ok rfl]
      simp only [sg]
    · rw [← hlen]
      exact (app_ok (args1 (var_ok rfl))).trans (lenS_ok hz)
    · refine (app_ok (args2 (var_ok rfl) cst)).trans ?_
      have cond : (pword p).length ≤ 640 ∧ (pword p).cps.toList ≠ [] ∧ ∀ c ∈ (pword p).cps.toList, Bn.IsBit c := by
        refine ⟨by omega, fun z => ?_, hbit⟩
        have := congrArg List.length z
        have e : (pword p).cps.toList = cl (pword p) := rfl
        rw [e, hc] at this
        simp at this
        omega
      show (if _ then _ else _ : M PV) st = _
      rw [if_pos cond]
      have e : (pword p).cps.toList = cl (pword p) := rfl
      rw [e, hc, bin_word _ _ hp]
      rfl
theorem RL.ws_len {r : RL} (h1 : r.s.l ≤ 16) (h2 : r.t.l ≤ 16) (h3 : r.a ≤ 9) : ∀ w ∈ r.ws, w.length ≤ 100 := by
  intro w hw
  simp only [RL.ws, List.mem_cons, List.not_mem_nil, or_false] at hw
  rcases hw with rfl | rfl | rfl
  · have := pword_len h1; omega
  · have := pword_len h2; omega
  · have := nt_len (v := r.a) (by omega); omega
theorem read_rule_ok [F0 : Fn D ("read_number" : Str) 3 5 b_read_number] [F1 : Fn D ("read_prefix" : Str) 2 3 b_read_prefix] [F : Fn D ("read_rule" : Str) 2 6 b_read_rule] {n bits : Nat} {r : RL} {st : Store} (hb : bits ≤ 16) (h : r.s.l ≤ bits ∧ r.s.b < 2 ^ r.s.l ∧ r.t.l ≤ bits ∧ r.t.b < 2 ^ r.t.l ∧ r.a ≤ 9) : D (n + 2) ("read_rule" : Str) [.str r.row, .int bits] st = .ok r.pv st := by
  obtain ⟨h1, h2, h3, h4, h5⟩ := h
  refine fn_pure [some (.str r.row), some (.int bits), none, none, none, none] (by rfl) (RL.bound _ _) ?_
  unfold b_read_rule
  refine P_words (ws := r.ws) rfl (by simp [RL.ws]) (fun w hw => ?_) (RL.ws_len (by omega) (by omega) h5) (by simp [RL.ws]) ?_
  · simp only [RL.ws, List.mem_cons, List.not_mem_nil, or_false] at hw
    rcases hw with rfl | rfl | rfl
    · exact pword_all _
    · exact pword_all _
    · exact nt_all _
  generalize hS : st ++ [Ob.lst (r.ws.map PV.str)] = S
  have w0 := word_at (ws := r.ws) (st := st) (i := 0) rfl
  have w1 := word_at (ws := r.ws) (st := st) (i := 1) rfl
  have w2 := word_at (ws := r.ws) (st := st) (i := 2) rfl
  have wn := words_n (ws := r.ws) (st := st)
  rw [hS] at w0 w1 w2 wn
  have rn := rn_ok (D := D) (m := n) (v := r.a) (lo := 0) (hi := 9) (st := S) (by omega) (by omega) (by omega)
  refine P_if0 (test_ok (eqI ((app_ok (args1 (var_ok rfl))).trans wn) cst rfl)) ?_
  refine P_asg (call_ok' (args2 ((bin_ok (var_ok rfl) cst).trans w0) (var_ok rfl)) rfl (read_prefix_ok h1 (by omega) h2)) ?_
  refine P_asg (call_ok' (args2 ((bin_ok (var_ok rfl) cst).trans w1) (var_ok rfl)) rfl (read_prefix_ok h3 (by omega) h4)) ?_
  refine P_asg (call_ok' (args3 ((bin_ok (var_ok rfl) cst).trans w2) cst cst) rfl rn) ?_
  refine P_if0 ((or_f (test_ok ((bin_ok (var_ok rfl) cst).trans isN_ok))).trans ((or_f (test_ok ((bin_ok (var_ok rfl) cst).trans isN_ok))).trans (test_ok ((bin_ok (var_ok rfl) cst).trans isN_ok)))) ?_
  exact P_ret (tup_ok (args3 (var_ok rfl) (var_ok rfl) (var_ok rfl)) (show 3 ≤ sizeLine by decide)) ⟨rfl, _, hS.symm⟩
theorem read_bits_ok [F0 : Fn D ("read_number" : Str) 3 5 b_read_number] [F : Fn D ("read_bits" : Str) 1 2 b_read_bits] {n bits : Nat} {st : Store} (hb : bits ≤ 16) (h1 : 1 ≤ bits) : D (n + 2) ("read_bits" : Str) [.str (bitsRow bits)] st = .ok (.int bits) st := by
  refine fn_pure [some (.str (bitsRow bits)), none] (by rfl) rfl ?_
  unfold b_read_bits
  refine P_words (ws := ["bits", nt bits]) rfl (by simp) (fun w hw => ?_) (fun w hw => ?_) (by simp) ?_
  · simp only [List.mem_cons, List.not_mem_nil, or_false] at hw
    rcases hw with rfl | rfl
    · decide +kernel
    · exact nt_all _
  · simp only [List.mem_cons, List.not_mem_nil, or_false] at hw
    rcases hw with rfl | rfl
    · decide +kernel
    · have := nt_len (v := bits) (by omega); omega
  generalize hS : st ++ [Ob.lst ((["bits", nt bits] : List Str).map PV.str)] = S
  have w0 := word_at (ws := ["bits", nt bits]) (st := st) (i := 0) rfl
  have w1 := word_at (ws := ["bits", nt bits]) (st := st) (i := 1) rfl
  have wn := words_n (ws := ["bits", nt bits]) (st := st)
  rw [hS] at w0 w1 wn
  have rn := rn_ok (D := D) (m := n) (v := bits) (lo := 1) (hi := 16) (st := S) (by omega) (by omega) (by omega)
  refine P_if0 ((or_f (test_ok (eqI ((app_ok (args1 (var_ok rfl))).trans wn) cst rfl))).trans (test_ok ((bin_ok ((bin_ok (var_ok rfl) cst).trans w0) cst).trans (neS_ok (by simp))))) ?_
  exact P_ret (call_ok' (args3 ((bin_ok (var_ok rfl) cst).trans w1) cst cst) rfl rn) ⟨rfl, _, hS.symm⟩
theorem le_rules {r q : RL} {st : Store} : opLe r.pv q.pv st = .ok (.bl (!q.lt r)) st := by
  have c : cmpOk r.pd q.pd = true := by
    have : min r.pd.depth q.pd.depth ≤ 64 := by rw [RL.dep]; omega
    show (PySem.W.alike r.pd q.pd && notNone r.pd && decide (min r.pd.depth q.pd.depth ≤ 64)) = true
    rw [alikeR, decide_eq_true this]
    rfl
  show (match pdAt st r.pv, pdAt st q.pv with
    | some p, some q => if cmpOk p q = true then Res.ok (PV.bl (!PySem.W.dataLt q p)) st else .no
    | _, _ => .no) = _
  rw [show pdAt st r.pv = some r.pd from rfl, show pdAt st q.pv = some q.pd from rfl]
  simp only [c, if_true, RL.ltD]
theorem eq_sides {r q : RL} {st : Store} : opEqB false r.sd q.sd st = .ok (.bl (r.same q)) st := by
  show (match pdAt st r.sd, pdAt st q.sd with
    | some p, some q => if min p.depth q.depth ≤ 64 then Res.ok (PV.bl (if false then !PyData.eqv p q else PyData.eqv p q)) st else .no
    | _, _ => .no) = _
  rw [show pdAt st r.sd = some r.sdd from rfl, show pdAt st q.sd = some q.sdd from rfl]
  simp only [RL.depS, RL.eqvS]
  rfl
theorem same_comm (r q : RL) : r.same q = q.same r := by unfold RL.same; congr 1; apply propext; omega
theorem read_edition_ok [F0 : Fn D ("read_number" : Str) 3 5 b_read_number] [F1 : Fn D ("read_prefix" : Str) 2 3 b_read_prefix] [F2 : Fn D ("read_rule" : Str) 2 6 b_read_rule] [F3 : Fn D ("read_bits" : Str) 1 2 b_read_bits] [F4 : Fn D ("text_rows" : Str) 1 2 b_text_rows] [F : Fn D ("read_edition" : Str) 1 8 b_read_edition]
    {n bits : Nat} {rs : List RL} {st : Store} (h : EdOk bits rs) (hb : bits ≤ 16) (h1 : 1 ≤ bits) : D (n + 3) ("read_edition" : Str) [.str (txt (edRows bits rs))] st = .ok (edPV bits rs) st := by
  have hl := h.len
  have rowfree : ∀ r ∈ edRows bits rs, (10 : Nat) ∉ cl r := by
    intro r hr
    rcases List.mem_cons.mp hr with rfl | hr
    · refine row_free (by decide) (word_free (fun w hw => ?_) (by decide))
      simp only [List.mem_cons, List.not_mem_nil, or_false] at hw
      rcases hw with rfl | rfl
      · decide +kernel
      · exact nt_all _
    · obtain ⟨q, _, rfl⟩ := List.mem_map.mp hr
      refine row_free (by decide) (word_free (fun w hw => ?_) (by decide))
      simp only [RL.ws, List.mem_cons, List.not_mem_nil, or_false] at hw
      rcases hw with rfl | rfl | rfl
      · exact pword_all _
      · exact pword_all _
      · exact nt_all _
  have tr := text_rows_ok (D := D) (n := n + 1) (rows := edRows bits rs) (st := st) rowfree (edrow_len h hb) (by simp [edRows]; omega)
  refine fn_pure [some (.str (txt (edRows bits rs))), none, none, none, none, none, none, none] (by rfl) (ed_bound _ _ _) ?_
  unfold b_read_edition
  refine P_asgT (call_ok' (args1 (var_ok rfl)) rfl tr) (env' := [some (.str (txt (edRows bits rs))), none, none, some (.obj (st.length + 1)), some (.bl true), none, none, none]) rfl ?_
  generalize hA : Ob.lst ((edRows bits rs ++ [("" : Str)]).map PV.str) = A
  generalize hB : st ++ [A, .lst ((edRows bits rs).map PV.str)] = base
  have lb : base.length = st.length + 2 := by rw [← hB]; simp
  have g1 : base[st.length + 1]? = some (.lst ((edRows bits rs).map PV.str)) := by rw [← hB, List.getElem?_append_right (by omega)]; simp
  have tr1 : cTruth (cVar 3) [some (.str (txt (edRows bits rs))), none, none, some (.obj (st.length + 1)), some (.bl true), none, none, none] base = .ok true base := by
    rw [run_truth, var_ok rfl]
    show truth (.obj (st.length + 1)) base = _
    unfold truth
    simp only [g1]
    rfl
  refine P_if0 (not_ok tr1) ?_
  refine P_asg (call_ok' (args1 ((bin_ok (var_ok rfl) cst).trans (get_obj g1 at_zero))) rfl (read_bits_ok hb h1)) ?_
  refine P_if0 (test_ok ((bin_ok (var_ok rfl) cst).trans isN_ok)) ?_
  refine P_new ?_
  have g2 := getO g1 [.lst []]
  have sl : (cSlice (cVar 3) (some (cC (.int (1)))) none) [some (.str (txt (edRows bits rs))), some (.int bits), some (.obj base.length), some (.obj (st.length + 1)), some (.bl true), none, none, none] (base ++ [.lst []]) = .ok (.obj (base.length + 1)) (base ++ .lst [] :: [.lst ((rs.map RL.row).map PV.str)]) := by
    rw [slice_ok (a := .obj (st.length + 1)) (l := some 1) (u := none) (var_ok rfl) (part_some cst) part_none, slice_obj g2]
    show Res.ok (PV.obj (base ++ [Ob.lst []]).length) (base ++ [Ob.lst []] ++ [.lst (cutG (PV.str (bitsRow bits) :: (rs.map RL.row).map PV.str) (some 1) none)]) = _
    rw [cut_tail]
    simp
  have gs : ∀ acc : List PV, (base ++ .lst acc :: [.lst ((rs.map RL.row).map PV.str)])[base.length + 1]? = some (.lst ((rs.map RL.row).map PV.str)) := fun acc => by rw [List.getElem?_append_right (by omega)]; simp
  refine P_sFor (p := (itemsOf 0 (rs.map RL.row), [(base.length + 1, (rs.map RL.row).map PV.str)])) (st1 := base ++ .lst [] :: [.lst ((rs.map RL.row).map PV.str)]) ?_ ?_
  · exact wEnum_ok sl (listP_obj (gs _))
  · have items : ∀ (k : Nat) (l : List RL), itemsOf k (l.map RL.row) = (l.zipIdx k).map fun p => PV.tup [.int (p.2 : Nat), .str p.1.row] := by
      intro k l
      induction l generalizing k with
      | nil => rfl
      | cons a l ih => rw [List.map_cons, items_cons, ih]; rfl
    rw [items]
    refine P_forL (fun p : RL × Nat => PV.tup [.int (p.2 : Nat), .str p.1.row]) (fun pre env st' => (∃ x5 x6 x7, env = [some (.str (txt (edRows bits rs))), some (.int bits), some (.obj base.length), some (.obj (st.length + 1)), some (.bl true), x5, x6, x7]) ∧ st' = base ++ .lst ((pre.map (·.1)).map RL.pv) :: [.lst ((rs.map RL.row).map PV.str)]) (rs.zipIdx 0) ⟨⟨_, _, _, rfl⟩, rfl⟩ ?_ ?_
    · rintro pre ⟨r, k⟩ post env st' hz ⟨⟨x5, x6, x7, rfl⟩, rfl⟩
      have hrs : rs = pre.map (·.1) ++ r :: post.map (·.1) := by
        have := congrArg (List.map (·.1)) hz
        rw [List.zipIdx_map_fst] at this
        simpa using this
      obtain ⟨hm, _, hlt⟩ := split_mem hrs
      have up := h.up
      rw [hrs] at up
      have up2 := (List.pairwise_append.mp up).2.2
      have eP : (pre ++ [(r, k)]).map (·.1) = pre.map (·.1) ++ [r] := by simp
      rw [eP]
      generalize pre.map (·.1) = P at hrs hlt up2 ⊢
      refine ⟨_, rfl, ?_⟩
      generalize hS : base ++ Ob.lst (P.map RL.pv) :: [Ob.lst ((rs.map RL.row).map PV.str)] = S
      have gr : S[base.length]? = some (.lst (P.map RL.pv)) := by rw [← hS]; exact getL rfl
      refine P_asg (call_ok' (args2 (var_ok rfl) (var_ok rfl)) rfl (read_rule_ok hb (h.rule r hm))) ?_
      refine P_if0 (st' := S) ?_ (P_if0 (st' := S) ?_ ?_)
      · exact (or_f (test_ok ((bin_ok (var_ok rfl) cst).trans isN_ok))).trans (test_ok (eqI ((app_ok (args1 (var_ok rfl))).trans (len_obj gr)) cst (by simp; omega)))
      · rcases List.eq_nil_or_concat P with rfl | ⟨P', q, rfl⟩
        · refine and_f ?_
          rw [run_truth, var_ok rfl]
          show truth (.obj base.length) S = _
          unfold truth
          simp only [gr]
          rfl
        · rw [List.concat_eq_append] at gr up2
          have hq := up2 q (by simp) r (by simp)
          have gl : getItemP (.obj base.length) (.int (-1)) S = .ok q.pv S := get_obj gr (by rw [List.map_append]; exact at_last)
          refine (and_t (st' := S) ?_).trans ?_
          · rw [run_truth, var_ok rfl]
            show truth (.obj base.length) S = _
            unfold truth
            simp only [gr]
            rw [List.map_append]
            cases P'.map RL.pv <;> rfl
          · have l1 : ∀ env : EnvP, env[7]? = some (some r.pv) → (cSlice (cVar 7) none (some (cC (.int (2))))) env S = .ok r.sd S := fun env e => by
              rw [slice_ok (var_ok e) part_none (part_some cst)]
              rfl
            have l2 : ∀ env : EnvP, env[2]? = some (some (.obj base.length)) → (cSlice (cBin getItemP (cVar 2) (cUn opNeg (cC (.int (1))))) none (some (cC (.int (2))))) env S = .ok q.sd S := fun env e => by
              have m1 : (cUn opNeg (cC (.int (1)))) env S = .ok (.int (-1)) S := rfl
              rw [slice_ok ((bin_ok (var_ok e) m1).trans gl) part_none (part_some cst)]
              rfl
            refine (or_f (test_ok ((bin_ok (var_ok rfl) ((bin_ok (var_ok rfl) (un_ok cst)).trans gl)).trans (le_rules.trans ?_)))).trans (test_ok ((bin_ok (l1 _ rfl) (l2 _ rfl)).trans (eq_sides.trans ?_)))
            · rw [hq.1]; rfl
            · rw [same_comm, hq.2]
      · refine P_drop ((met_ok (var_ok rfl) gr (args1 (var_ok rfl))).trans (by rw [← hS]; exact app_L rfl (by simp; omega))) (P_next ⟨_, .inl rfl, gd_one' (gs _), ⟨_, _, _, rfl⟩, ?_⟩)
        simp
    · rintro env st' ⟨⟨x5, x6, x7, rfl⟩, rfl⟩
      rw [List.zipIdx_map_fst]
      refine P_if0 (not_ok (b := true) (truth_ok (var_ok rfl))) ?_
      refine P_ret (tup_ok (args2 (var_ok rfl) ((app_ok (args1 (var_ok rfl))).trans (tup_L rfl))) (show 2 ≤ sizeLine by decide)) ⟨rfl, ?_⟩
      rw [← hB, List.append_assoc]
      exact ⟨_, rfl⟩
end PyI

/-! PyS12: window tables and hello tables read; likeness; the row. -/
namespace PyI
open PySem Sh L2 TL
variable {D : Prg}
/-! ### the row, likeness -/
theorem law_row_ok [F0 : Fn D ("_law_mixed" : Str) 2 6 b_law_mixed] [F1 : Fn D ("_law_row" : Str) 2 5 b_law_row] {n : Nat} (ns : List Int) (many : Nat) (hm : many ≤ 1000000) (st : Store) :
    ∃ vs : List Nat, vs.length = many ∧ (∀ v ∈ vs, v ≤ 1000002) ∧ D (n + 2) ("_law_row" : Str) [.ilst (ns.map PV.int), .int (many : Nat)] st = .ok (.obj st.length) (st ++ [rowOb vs]) :=
  row_ok (D := D.den) (fun n xs => F1.run n xs) (fun n xs => F0.run n xs) (n := n) ns many hm st
theorem law_like_ok [F0 : Fn D ("_law_is_int" : Str) 1 1 b_law_is_int] [F1 : Fn D ("_law_like" : Str) 2 3 b_law_like] {d n : Nat} {v w : PV} {st : Store} (h : Lk d v w) : D (n + d + 2) ("_law_like" : Str) [v, w] st = .ok (.bl true) st :=
  like_ok (D := D.den) (fun n xs => F1.run n xs) (fun n xs => F0.run n xs) d v w n st h
theorem lk_atom {v : PV} (h : atomB v = true) : ∀ d, Lk d v v
  | 0 => ⟨h, rfl⟩
  | _ + 1 => .inl ⟨h, rfl⟩
theorem all2_self {α : Type} {P : α → α → Prop} : ∀ {l : List α}, (∀ x ∈ l, P x x) → All2 P l l
  | [], _ => .nil
  | x :: l, h => .cons (h x List.mem_cons_self) (all2_self fun y hy => h y (List.mem_cons_of_mem _ hy))
theorem lk_tup {d : Nat} {xs : List PV} (hl : xs.length ≤ 1000000) (h : ∀ x ∈ xs, Lk d x x) : Lk (d + 1) (.tup xs) (.tup xs) := .inr ⟨xs, xs, .inl rfl, .inl rfl, hl, all2_self h⟩
theorem lk_encT {α : Type} {d : Nat} {f : α → PV} {l : List α} (hl : l.length ≤ 1000000) (h : ∀ x ∈ l, Lk d (f x) (f x)) : Lk (d + 1) (encT f l) (encT f l) := lk_tup (by simpa using hl) fun x hx => by
  obtain ⟨y, hy, rfl⟩ := List.mem_map.mp hx
  exact h y hy
theorem lk_atoms {xs : List PV} (hl : xs.length ≤ 1000000) (h : ∀ x ∈ xs, atomB x = true) : Lk 1 (.tup xs) (.tup xs) := lk_tup hl fun x hx => lk_atom (h x hx) 0
theorem lk_we (e : WE) : Lk 1 e.pv e.pv := lk_atoms (by simp) (by simp [atomB])
theorem lk_he (e : HE) : Lk 1 e.pv e.pv := lk_atoms (by simp) (by simp [atomB])
theorem lk_px (p : PX) : Lk 1 p.pv p.pv := lk_atoms (by simp) (by simp [atomB])
theorem lk_rl (r : RL) : Lk 2 r.pv r.pv := lk_tup (by simp) fun x hx => by
  simp only [List.mem_cons, List.not_mem_nil, or_false] at hx
  rcases hx with rfl | rfl | rfl
  · exact lk_px _
  · exact lk_px _
  · exact lk_atom rfl 1
theorem lk_ed {bits : Nat} {rs : List RL} (h : rs.length ≤ 1000000) : Lk 4 (edPV bits rs) (edPV bits rs) := lk_tup (by simp) fun x hx => by
  simp only [List.mem_cons, List.not_mem_nil, or_false] at hx
  rcases hx with rfl | rfl
  · exact lk_atom rfl 3
  · exact lk_encT h fun r _ => lk_rl r
/-! ### the drawn tables are tables -/
theorem range_get {β : Type} {f : Nat → β} {n k : Nat} {e : β} (h : ((List.range n).map f)[k]? = some e) : k < n ∧ f k = e := by
  have hk : k < n := by have := (List.getElem?_eq_some_iff.mp h).1; simpa using this
  rw [List.getElem?_map, List.getElem?_range hk] at h
  exact ⟨hk, Option.some.inj h⟩
theorem getD_in {l : List Str} {i : Nat} {d : Str} (h : i < l.length) : l.getD i d ∈ l := by
  simp [List.getD, List.getElem?_eq_getElem h]
theorem lawDeed_in (k : Nat) (c : Int) : lawDeed k c ∈ wdeeds k := by
  have h6 : (c % 6).toNat < 6 := by omega
  have h4 : (c % 4).toNat < 4 := by omega
  unfold lawDeed wdeeds
  by_cases h1 : k < 3
  · rw [if_pos (show (k : Int) < 3 by omega), if_pos h1]
    have := getD_in (l := ["none", "move", "bare", "wipe", "move", "move"]) (d := "") h6
    simp only [List.mem_cons, List.not_mem_nil, or_false] at this ⊢
    rcases this with e | e | e | e | e | e <;> rw [e] <;> simp
  · rw [if_neg (show ¬ (k : Int) < 3 by omega), if_neg h1]
    by_cases h2 : k = 3
    · rw [if_pos (show (k : Int) = 3 by omega), if_pos h2]
      have := getD_in (l := ["none", "mark", "wipe", "mark"]) (d := "") h4
      simp only [List.mem_cons, List.not_mem_nil, or_false] at this ⊢
      rcases this with e | e | e | e <;> rw [e] <;> simp
    · rw [if_neg (show ¬ (k : Int) = 3 by omega), if_neg h2]
      have := getD_in (l := ["none", "wipe", "none", "none"]) (d := "") h4
      simp only [List.mem_cons, List.not_mem_nil, or_false] at this ⊢
      rcases this with e | e | e | e <;> rw [e] <;> simp
theorem lawHD_in {k : Nat} (hk : k < 5) (c : Int) : lawHD k c ∈ hdeeds k := by
  have h4 : (c % 4).toNat < 4 := by omega
  have hc : k = 0 ∨ k = 1 ∨ k = 2 ∨ k = 3 ∨ k = 4 := by omega
  have a := getD_in (l := ["ignore", "open", "ignore", "open"]) (d := "") h4
  have b := getD_in (l := ["ignore", "anew", "front", "drop"]) (d := "") h4
  have c' := getD_in (l := ["open", "open", "ignore", "open"]) (d := "") h4
  simp only [List.mem_cons, List.not_mem_nil, or_false] at a b c'
  rcases hc with rfl | rfl | rfl | rfl | rfl <;> simp only [lawHD, hdeeds] <;> simp
  · rcases a with e | e | e | e <;> simp at e <;> simp [e]
  · rcases b with e | e | e | e <;> simp at e <;> simp [e]
  · rcases a with e | e | e | e <;> simp at e <;> simp [e]
  · rcases b with e | e | e | e <;> simp at e <;> simp [e]
  · rcases c' with e | e | e | e <;> simp at e <;> simp [e]
theorem lawWindow_ok (vs : List Nat) (at' : Int) {states : Nat} (h : 1 ≤ states) : TabOk WE.Ok 6 (lawWindow vs at' states) ∧ (lawWindow vs at' states).length = states := by
  refine ⟨⟨fun r hr => ?_, fun r hr k e he => ?_⟩, by simp [lawWindow]⟩
  · obtain ⟨i, _, rfl⟩ := List.mem_map.mp hr
    simp
  · obtain ⟨i, _, rfl⟩ := List.mem_map.mp hr
    obtain ⟨_, rfl⟩ := range_get he
    exact ⟨lawDeed_in _ _, Int.emod_nonneg _ (by omega), by show _ % (states : Int) < _; rw [show (lawWindow vs at' states).length = states by simp [lawWindow]]; exact Int.emod_lt_of_pos _ (by omega)⟩
theorem lawHellos_ok (vs : List Nat) (at' : Int) {states : Nat} (h : 1 ≤ states) : TabOk HE.Ok 5 (lawHellos vs at' states) ∧ (lawHellos vs at' states).length = states := by
  refine ⟨⟨fun r hr => ?_, fun r hr k e he => ?_⟩, by simp [lawHellos]⟩
  · obtain ⟨i, _, rfl⟩ := List.mem_map.mp hr
    simp
  · obtain ⟨i, _, rfl⟩ := List.mem_map.mp hr
    obtain ⟨hk, rfl⟩ := range_get he
    exact ⟨lawHD_in hk _, Int.emod_nonneg _ (by omega), by show _ % (states : Int) < _; rw [show (lawHellos vs at' states).length = states by simp [lawHellos]]; exact Int.emod_lt_of_pos _ (by omega)⟩
/-! ### read -/
theorem mem_get {α : Type} {l : List α} {e : α} (h : e ∈ l) : ∃ k, l[k]? = some e ∧ k < l.length := by
  obtain ⟨k, hk, rfl⟩ := List.mem_iff_getElem.mp h
  exact ⟨k, List.getElem?_eq_getElem hk, hk⟩
theorem wdeed_all {k : Nat} {d : Str} (hm : d ∈ wdeeds k) : (cl d).all (fun x => decide (45 ≤ x)) = true := by
  unfold wdeeds at hm
  split at hm
  · simp only [List.mem_cons, List.not_mem_nil, or_false] at hm
    rcases hm with e | e | e | e <;> rw [e] <;> decide +kernel
  · split at hm
    · simp only [List.mem_cons, List.not_mem_nil, or_false] at hm
      rcases hm with e | e | e <;> rw [e] <;> decide +kernel
    · simp only [List.mem_cons, List.not_mem_nil, or_false] at hm
      rcases hm with e | e <;> rw [e] <;> decide +kernel
theorem read_window_ok [F0 : Fn D ("read_number" : Str) 3 5 b_read_number] [F1 : Fn D ("read_window_entry" : Str) 2 4 b_read_window_entry] [F2 : Fn D ("text_rows" : Str) 1 2 b_text_rows] [F3 : Fn D ("check_whole" : Str) 4 6 b_check_whole] [F4 : Fn D ("read_state_table" : Str) 4 12 b_read_state_table] [F : Fn D ("read_window" : Str) 2 2 b_read_window]
    {n : Nat} {x : PV} {w : List (List WE)} {st : Store} (h : TabOk WE.Ok 6 w) (h1 : 1 ≤ w.length) (h5 : w.length ≤ 5) : D (n + 4) ("read_window" : Str) [x, .str (txt (rowsOf WE.row w))] st = .ok (encW w) st := by
  refine fn_pure [some x, some (.str (txt (rowsOf WE.row w)))] (by rfl) (bound_encT (fun r => bound_encT (WE.bound _) _) _) ?_
  unfold b_read_window
  have e : EntOk D (n + 2) ("read_window_entry" : Str) WE.pv WE.row (fun e => e.s) 6 w := by
    refine ⟨h.len, fun es hes k e he st => read_window_entry_ok (n := n) (h.ent es hes k e he) h5 (by have := (List.getElem?_eq_some_iff.mp he).1; rw [h.len es hes] at this; exact this), fun e z => (nomatch z), fun e st => get_tup (at_last (xs := [.bl e.t, .bl e.f, .str e.d])), fun es hes e he => ?_, fun es hes e he => ?_, fun es hes e he => ?_, fun e n => WE.bound n e⟩
    · obtain ⟨k, hk, _⟩ := mem_get he
      exact (h.ent es hes k e hk).s1
    · obtain ⟨k, hk, _⟩ := mem_get he
      have ok := h.ent es hes k e hk
      refine row_free (by decide) (word_free (fun w hw => ?_) (by decide))
      simp only [WE.ws, List.mem_cons, List.not_mem_nil, or_false] at hw
      have yall : ∀ b, (cl (yesS b)).all (fun x => decide (45 ≤ x)) = true := fun b => by cases b <;> decide +kernel
      rcases hw with rfl | rfl | rfl | rfl
      · exact yall _
      · exact yall _
      · exact wdeed_all ok.d
      · exact nt_all _
    · obtain ⟨k, hk, _⟩ := mem_get he
      exact Nat.le_trans (row_len_le (WE.ws_len (h.ent es hes k e hk) (by omega))) (by show 11 * 4 ≤ 2000; decide)
  exact P_ret (call_ok' (args_cons_ok (var_ok rfl) (args3 cst cst cst)) rfl (read_state_table_ok (D := D) (n := n + 1) (m := 6) (most := 5) (st := st) e F1.ari (fun z => by rw [z] at h1; exact absurd h1 (by decide)) h5 (by omega) (by omega))) ⟨rfl, [], by simp⟩
theorem read_hellos_ok [F0 : Fn D ("read_number" : Str) 3 5 b_read_number] [F1 : Fn D ("read_hello_entry" : Str) 2 4 b_read_hello_entry] [F2 : Fn D ("text_rows" : Str) 1 2 b_text_rows] [F3 : Fn D ("check_whole" : Str) 4 6 b_check_whole] [F4 : Fn D ("read_state_table" : Str) 4 12 b_read_state_table] [F : Fn D ("read_hellos" : Str) 2 2 b_read_hellos]
    {n : Nat} {x : PV} {w : List (List HE)} {st : Store} (h : TabOk HE.Ok 5 w) (h1 : 1 ≤ w.length) (h5 : w.length ≤ 4) : D (n + 4) ("read_hellos" : Str) [x, .str (txt (rowsOf HE.row w))] st = .ok (encH w) st := by
  refine fn_pure [some x, some (.str (txt (rowsOf HE.row w)))] (by rfl) (bound_encT (fun r => bound_encT (HE.bound _) _) _) ?_
  unfold b_read_hellos
  have e : EntOk D (n + 2) ("read_hello_entry" : Str) HE.pv HE.row (fun e => e.s) 5 w := by
    refine ⟨h.len, fun es hes k e he st => read_hello_entry_ok (n := n) (h.ent es hes k e he) h5 (by have := (List.getElem?_eq_some_iff.mp he).1; rw [h.len es hes] at this; exact this), fun e z => (nomatch z), fun e st => get_tup (at_last (xs := [.str e.d])), fun es hes e he => ?_, fun es hes e he => ?_, fun es hes e he => ?_, fun e n => HE.bound n e⟩
    · obtain ⟨k, hk, _⟩ := mem_get he
      exact (h.ent es hes k e hk).s1
    · obtain ⟨k, hk, _⟩ := mem_get he
      have ok := h.ent es hes k e hk
      refine row_free (by decide) (word_free (fun w hw => ?_) (by decide))
      simp only [HE.ws, List.mem_cons, List.not_mem_nil, or_false] at hw
      rcases hw with rfl | rfl
      · exact hdeed_all ok.d
      · exact nt_all _
    · obtain ⟨k, hk, _⟩ := mem_get he
      exact Nat.le_trans (row_len_le (HE.ws_len (h.ent es hes k e hk) (by omega))) (by show 11 * 2 ≤ 2000; decide)
  exact P_ret (call_ok' (args_cons_ok (var_ok rfl) (args3 cst cst cst)) rfl (read_state_table_ok (D := D) (n := n + 1) (m := 5) (most := 4) (st := st) e F1.ari (fun z => by rw [z] at h1; exact absurd h1 (by decide)) h5 (by omega) (by omega))) ⟨rfl, [], by simp⟩
end PyI

namespace Ro_k91
open PySem PySem.Spec PyProof.Rows L2 PyI
def top (i : Nat) : Stmt := PySem.Challenge.pw_roadblind_k91_table_texts.main.body.getD i (.Pass ⟨0, 0, 0, 0⟩)
def f_rows_text : FI := ⟨[("rows" : Str)], [("rows" : Str), ("row" : Str)], [], C8.fnArgs (top 12), C8.fnBody (top 12), C8.fnScope (top 12), false⟩
def f_truth_text : FI := ⟨[("truth" : Str)], [("truth" : Str)], [], C8.fnArgs (top 13), C8.fnBody (top 13), C8.fnScope (top 13), false⟩
def f_window_text : FI := ⟨[("table" : Str)], [("table" : Str), ("rows" : Str), ("entries" : Str), ("takes" : Str), ("follows" : Str), ("deed" : Str), ("state" : Str)], [], C8.fnArgs (top 14), C8.fnBody (top 14), C8.fnScope (top 14), false⟩
def f_hello_text : FI := ⟨[("table" : Str)], [("table" : Str), ("rows" : Str), ("entries" : Str), ("deed" : Str), ("state" : Str)], [], C8.fnArgs (top 15), C8.fnBody (top 15), C8.fnScope (top 15), false⟩
def f_prefix_text : FI := ⟨[("prefix" : Str)], [("prefix" : Str), ("length" : Str), ("bits" : Str), ("index" : Str)], [], C8.fnArgs (top 16), C8.fnBody (top 16), C8.fnScope (top 16), false⟩
def f_edition_text : FI := ⟨[("edition" : Str)], [("edition" : Str), ("rows" : Str), ("bits" : Str), ("rules" : Str), ("sender" : Str), ("taker" : Str), ("answer" : Str)], [], C8.fnArgs (top 17), C8.fnBody (top 17), C8.fnScope (top 17), false⟩
def f_text_rows : FI := ⟨[("text" : Str)], [("text" : Str), ("rows" : Str)], [], C8.fnArgs (top 18), C8.fnBody (top 18), C8.fnScope (top 18), false⟩
def f_read_number : FI := ⟨[("word" : Str), ("least" : Str), ("greatest" : Str)], [("word" : Str), ("least" : Str), ("greatest" : Str), ("number" : Str), ("char" : Str)], [], C8.fnArgs (top 19), C8.fnBody (top 19), C8.fnScope (top 19), true⟩
def f_read_state_table : FI := ⟨[("text" : Str), ("size" : Str), ("most" : Str), ("read_entry" : Str)], [("text" : Str), ("size" : Str), ("most" : Str), ("read_entry" : Str), ("table" : Str), ("rows" : Str), ("whole" : Str), ("index" : Str), ("row" : Str), ("place" : Str), ("entry" : Str), ("entries" : Str)], [], C8.fnArgs (top 20), C8.fnBody (top 20), C8.fnScope (top 20), false⟩
def f_check_whole : FI := ⟨[("table" : Str), ("count" : Str), ("whole" : Str), ("size" : Str)], [("table" : Str), ("count" : Str), ("whole" : Str), ("size" : Str), ("entries" : Str), ("entry" : Str)], [], C8.fnArgs (top 21), C8.fnBody (top 21), C8.fnScope (top 21), true⟩
def f_read_window_entry : FI := ⟨[("row" : Str), ("kind" : Str)], [("row" : Str), ("kind" : Str), ("words" : Str), ("state" : Str)], [], C8.fnArgs (top 22), C8.fnBody (top 22), C8.fnScope (top 22), false⟩
def f_read_window : FI := ⟨[("width" : Str), ("text" : Str)], [("width" : Str), ("text" : Str)], [], C8.fnArgs (top 23), C8.fnBody (top 23), C8.fnScope (top 23), false⟩
def f_read_hello_entry : FI := ⟨[("row" : Str), ("kind" : Str)], [("row" : Str), ("kind" : Str), ("words" : Str), ("state" : Str)], [], C8.fnArgs (top 24), C8.fnBody (top 24), C8.fnScope (top 24), false⟩
def f_read_hellos : FI := ⟨[("most" : Str), ("text" : Str)], [("most" : Str), ("text" : Str)], [], C8.fnArgs (top 25), C8.fnBody (top 25), C8.fnScope (top 25), false⟩
def f_read_prefix : FI := ⟨[("word" : Str), ("bits" : Str)], [("word" : Str), ("bits" : Str), ("char" : Str)], [], C8.fnArgs (top 26), C8.fnBody (top 26), C8.fnScope (top 26), true⟩
def f_read_rule : FI := ⟨[("row" : Str), ("bits" : Str)], [("row" : Str), ("bits" : Str), ("words" : Str), ("sender" : Str), ("taker" : Str), ("answer" : Str)], [], C8.fnArgs (top 27), C8.fnBody (top 27), C8.fnScope (top 27), false⟩
def f_read_bits : FI := ⟨[("row" : Str)], [("row" : Str), ("words" : Str)], [], C8.fnArgs (top 28), C8.fnBody (top 28), C8.fnScope (top 28), false⟩
def f_read_edition : FI := ⟨[("text" : Str)], [("text" : Str), ("bits" : Str), ("rules" : Str), ("rows" : Str), ("whole" : Str), ("index" : Str), ("row" : Str), ("rule" : Str)], [], C8.fnArgs (top 29), C8.fnBody (top 29), C8.fnScope (top 29), false⟩
def f_law_mixed : FI := ⟨[("script" : Str), ("k" : Str)], [("script" : Str), ("k" : Str), ("cell" : Str), ("first" : Str), ("second" : Str), ("third" : Str)], [], C8.fnArgs (top 31), C8.fnBody (top 31), C8.fnScope (top 31), false⟩
def f_law_row : FI := ⟨[("script" : Str), ("many" : Str)], [("script" : Str), ("many" : Str), ("big" : Str), ("row" : Str), ("k" : Str)], [], C8.fnArgs (top 32), C8.fnBody (top 32), C8.fnScope (top 32), false⟩
def f_law_is_int : FI := ⟨[("value" : Str)], [("value" : Str)], [], C8.fnArgs (top 33), C8.fnBody (top 33), C8.fnScope (top 33), false⟩
def f_law_like : FI := ⟨[("value" : Str), ("due" : Str)], [("value" : Str), ("due" : Str), ("k" : Str)], [], C8.fnArgs (top 34), C8.fnBody (top 34), C8.fnScope (top 34), false⟩
def f_law_deed : FI := ⟨[("kind" : Str), ("cell" : Str)], [("kind" : Str), ("cell" : Str)], [], C8.fnArgs (top 35), C8.fnBody (top 35), C8.fnScope (top 35), false⟩
def f_law_window : FI := ⟨[("row" : Str), ("at" : Str), ("states" : Str)], [("row" : Str), ("at" : Str), ("states" : Str), ("table" : Str), ("state" : Str), ("entries" : Str), ("kind" : Str), ("spot" : Str), ("takes" : Str)], [], C8.fnArgs (top 36), C8.fnBody (top 36), C8.fnScope (top 36), false⟩
def f_law_hellos : FI := ⟨[("row" : Str), ("at" : Str), ("states" : Str)], [("row" : Str), ("at" : Str), ("states" : Str), ("table" : Str), ("state" : Str), ("entries" : Str), ("kind" : Str), ("spot" : Str), ("deeds" : Str)], [], C8.fnArgs (top 37), C8.fnBody (top 37), C8.fnScope (top 37), false⟩
def f_law_power : FI := ⟨[("length" : Str)], [("length" : Str), ("power" : Str), ("k" : Str)], [], C8.fnArgs (top 38), C8.fnBody (top 38), C8.fnScope (top 38), false⟩
def f_law_prefix : FI := ⟨[("cell" : Str), ("bits" : Str)], [("cell" : Str), ("bits" : Str), ("length" : Str)], [], C8.fnArgs (top 39), C8.fnBody (top 39), C8.fnScope (top 39), false⟩
def f_law_edition : FI := ⟨[("row" : Str), ("at" : Str), ("bits" : Str), ("most" : Str), ("answers" : Str)], [("row" : Str), ("at" : Str), ("bits" : Str), ("most" : Str), ("answers" : Str), ("rules" : Str), ("used" : Str), ("k" : Str), ("sides" : Str)], [], C8.fnArgs (top 40), C8.fnBody (top 40), C8.fnScope (top 40), false⟩
def f_law_yes : FI := ⟨[("truth" : Str)], [("truth" : Str)], [], C8.fnArgs (top 41), C8.fnBody (top 41), C8.fnScope (top 41), false⟩
def f_law_text : FI := ⟨[("rows" : Str)], [("rows" : Str), ("one" : Str)], [], C8.fnArgs (top 42), C8.fnBody (top 42), C8.fnScope (top 42), false⟩
def f_law_window_rows : FI := ⟨[("table" : Str)], [("table" : Str), ("rows" : Str), ("entries" : Str), ("takes" : Str), ("follows" : Str), ("deed" : Str), ("state" : Str)], [], C8.fnArgs (top 43), C8.fnBody (top 43), C8.fnScope (top 43), false⟩
def f_law_hello_rows : FI := ⟨[("table" : Str)], [("table" : Str), ("rows" : Str), ("entries" : Str), ("entry" : Str)], [], C8.fnArgs (top 44), C8.fnBody (top 44), C8.fnScope (top 44), false⟩
def f_law_prefix_word : FI := ⟨[("prefix" : Str)], [("prefix" : Str), ("length" : Str), ("bits" : Str), ("k" : Str)], [], C8.fnArgs (top 45), C8.fnBody (top 45), C8.fnScope (top 45), false⟩
def f_law_edition_rows : FI := ⟨[("edition" : Str)], [("edition" : Str), ("rows" : Str), ("sender" : Str), ("taker" : Str), ("answer" : Str)], [], C8.fnArgs (top 46), C8.fnBody (top 46), C8.fnScope (top 46), false⟩
def f_law_wide_edition : FI := ⟨[("row" : Str), ("at" : Str), ("bits" : Str)], [("row" : Str), ("at" : Str), ("bits" : Str), ("edition" : Str), ("rules" : Str), ("k" : Str), ("cell" : Str)], [], C8.fnArgs (top 47), C8.fnBody (top 47), C8.fnScope (top 47), false⟩
def f_law : FI := ⟨[("script" : Str)], [("script" : Str), ("row" : Str), ("width" : Str), ("most" : Str), ("table" : Str), ("hellos" : Str), ("bits" : Str), ("edition" : Str), ("text" : Str)], [], C8.fnArgs (top 48), C8.fnBody (top 48), C8.fnScope (top 48), false⟩
def R : PR where
  fns := [(("rows_text" : Str), f_rows_text), (("truth_text" : Str), f_truth_text), (("window_text" : Str), f_window_text), (("hello_text" : Str), f_hello_text), (("prefix_text" : Str), f_prefix_text), (("edition_text" : Str), f_edition_text), (("text_rows" : Str), f_text_rows), (("read_number" : Str), f_read_number), (("read_state_table" : Str), f_read_state_table), (("check_whole" : Str), f_check_whole), (("read_window_entry" : Str), f_read_window_entry), (("read_window" : Str), f_read_window), (("read_hello_entry" : Str), f_read_hello_entry), (("read_hellos" : Str), f_read_hellos), (("read_prefix" : Str), f_read_prefix), (("read_rule" : Str), f_read_rule), (("read_bits" : Str), f_read_bits), (("read_edition" : Str), f_read_edition), (("_law_mixed" : Str), f_law_mixed), (("_law_row" : Str), f_law_row), (("_law_is_int" : Str), f_law_is_int), (("_law_like" : Str), f_law_like), (("_law_deed" : Str), f_law_deed), (("_law_window" : Str), f_law_window), (("_law_hellos" : Str), f_law_hellos), (("_law_power" : Str), f_law_power), (("_law_prefix" : Str), f_law_prefix), (("_law_edition" : Str), f_law_edition), (("_law_yes" : Str), f_law_yes), (("_law_text" : Str), f_law_text), (("_law_window_rows" : Str), f_law_window_rows), (("_law_hello_rows" : Str), f_law_hello_rows), (("_law_prefix_word" : Str), f_law_prefix_word), (("_law_edition_rows" : Str), f_law_edition_rows), (("_law_wide_edition" : Str), f_law_wide_edition), (("law" : Str), f_law)]
  cn := [(("MOST_RULES" : Str), .int (24)), (("YES" : Str), .str ("yes" : Str)), (("NO" : Str), .str ("no" : Str)), (("DEEDS" : Str), .ctup [.ctup [.str ("none" : Str), .str ("move" : Str), .str ("bare" : Str), .str ("wipe" : Str)], .ctup [.str ("none" : Str), .str ("move" : Str), .str ("bare" : Str), .str ("wipe" : Str)], .ctup [.str ("none" : Str), .str ("move" : Str), .str ("bare" : Str), .str ("wipe" : Str)], .ctup [.str ("none" : Str), .str ("mark" : Str), .str ("wipe" : Str)], .ctup [.str ("none" : Str), .str ("wipe" : Str)], .ctup [.str ("none" : Str), .str ("wipe" : Str)]]), (("HELLO_DEEDS" : Str), .ctup [.ctup [.str ("ignore" : Str), .str ("open" : Str)], .ctup [.str ("ignore" : Str), .str ("anew" : Str), .str ("front" : Str), .str ("drop" : Str)], .ctup [.str ("ignore" : Str), .str ("open" : Str)], .ctup [.str ("ignore" : Str), .str ("anew" : Str), .str ("front" : Str), .str ("drop" : Str)], .ctup [.str ("ignore" : Str), .str ("open" : Str)]])]
  kd := []
  fr := [("int" : Str), ("range" : Str), ("len" : Str), ("tuple" : Str), ("str" : Str), ("isinstance" : Str), ("bool" : Str), ("all" : Str), ("enumerate" : Str), ("sorted" : Str), ("any" : Str)]
  wf := 1000000
theorem t_rows_text : TextOk f_rows_text ("rows_text" : Str) := ⟨C8.fnScope_by (by decide +kernel), rfl, fun kV doc pm an cdv ct us hl => match us, hl with | [_], _ => rfl⟩
theorem t_truth_text : TextOk f_truth_text ("truth_text" : Str) := ⟨C8.fnScope_by (by decide +kernel), rfl, fun kV doc pm an cdv ct us hl => match us, hl with | [_], _ => rfl⟩
theorem t_window_text : TextOk f_window_text ("window_text" : Str) := ⟨C8.fnScope_by (by decide +kernel), rfl, fun kV doc pm an cdv ct us hl => match us, hl with | [_], _ => rfl⟩
theorem t_hello_text : TextOk f_hello_text ("hello_text" : Str) := ⟨C8.fnScope_by (by decide +kernel), rfl, fun kV doc pm an cdv ct us hl => match us, hl with | [_], _ => rfl⟩
theorem t_prefix_text : TextOk f_prefix_text ("prefix_text" : Str) := ⟨C8.fnScope_by (by decide +kernel), rfl, fun kV doc pm an cdv ct us hl => match us, hl with | [_], _ => rfl⟩
theorem t_edition_text : TextOk f_edition_text ("edition_text" : Str) := ⟨C8.fnScope_by (by decide +kernel), rfl, fun kV doc pm an cdv ct us hl => match us, hl with | [_], _ => rfl⟩
theorem t_text_rows : TextOk f_text_rows ("text_rows" : Str) := ⟨C8.fnScope_by (by decide +kernel), rfl, fun kV doc pm an cdv ct us hl => match us, hl with | [_], _ => rfl⟩
theorem t_read_number : TextOk f_read_number ("read_number" : Str) := ⟨C8.fnScope_by (by decide +kernel), rfl, fun kV doc pm an cdv ct us hl => match us, hl with | [_, _, _], _ => rfl⟩
theorem t_read_state_table : TextOk f_read_state_table ("read_state_table" : Str) := ⟨C8.fnScope_by (by decide +kernel), rfl, fun kV doc pm an cdv ct us hl => match us, hl with | [_, _, _, _], _ => rfl⟩
theorem t_check_whole : TextOk f_check_whole ("check_whole" : Str) := ⟨C8.fnScope_by (by decide +kernel), rfl, fun kV doc pm an cdv ct us hl => match us, hl with | [_, _, _, _], _ => rfl⟩
theorem t_read_window_entry : TextOk f_read_window_entry ("read_window_entry" : Str) := ⟨C8.fnScope_by (by decide +kernel), rfl, fun kV doc pm an cdv ct us hl => match us, hl with | [_, _], _ => rfl⟩
theorem t_read_window : TextOk f_read_window ("read_window" : Str) := ⟨C8.fnScope_by (by decide +kernel), rfl, fun kV doc pm an cdv ct us hl => match us, hl with | [_, _], _ => rfl⟩
theorem t_read_hello_entry : TextOk f_read_hello_entry ("read_hello_entry" : Str) := ⟨C8.fnScope_by (by decide +kernel), rfl, fun kV doc pm an cdv ct us hl => match us, hl with | [_, _], _ => rfl⟩
theorem t_read_hellos : TextOk f_read_hellos ("read_hellos" : Str) := ⟨C8.fnScope_by (by decide +kernel), rfl, fun kV doc pm an cdv ct us hl => match us, hl with | [_, _], _ => rfl⟩
theorem t_read_prefix : TextOk f_read_prefix ("read_prefix" : Str) := ⟨C8.fnScope_by (by decide +kernel), rfl, fun kV doc pm an cdv ct us hl => match us, hl with | [_, _], _ => rfl⟩
theorem t_read_rule : TextOk f_read_rule ("read_rule" : Str) := ⟨C8.fnScope_by (by decide +kernel), rfl, fun kV doc pm an cdv ct us hl => match us, hl with | [_, _], _ => rfl⟩
theorem t_read_bits : TextOk f_read_bits ("read_bits" : Str) := ⟨C8.fnScope_by (by decide +kernel), rfl, fun kV doc pm an cdv ct us hl => match us, hl with | [_], _ => rfl⟩
theorem t_read_edition : TextOk f_read_edition ("read_edition" : Str) := ⟨C8.fnScope_by (by decide +kernel), rfl, fun kV doc pm an cdv ct us hl => match us, hl with | [_], _ => rfl⟩
theorem t_law_mixed : TextOk f_law_mixed ("_law_mixed" : Str) := ⟨C8.fnScope_by (by decide +kernel), rfl, fun kV doc pm an cdv ct us hl => match us, hl with | [_, _], _ => rfl⟩
theorem t_law_row : TextOk f_law_row ("_law_row" : Str) := ⟨C8.fnScope_by (by decide +kernel), rfl, fun kV doc pm an cdv ct us hl => match us, hl with | [_, _], _ => rfl⟩
theorem t_law_is_int : TextOk f_law_is_int ("_law_is_int" : Str) := ⟨C8.fnScope_by (by decide +kernel), rfl, fun kV doc pm an cdv ct us hl => match us, hl with | [_], _ => rfl⟩
theorem t_law_like : TextOk f_law_like ("_law_like" : Str) := ⟨C8.fnScope_by (by decide +kernel), rfl, fun kV doc pm an cdv ct us hl => match us, hl with | [_, _], _ => rfl⟩
theorem t_law_deed : TextOk f_law_deed ("_law_deed" : Str) := ⟨C8.fnScope_by (by decide +kernel), rfl, fun kV doc pm an cdv ct us hl => match us, hl with | [_, _], _ => rfl⟩
theorem t_law_window : TextOk f_law_window ("_law_window" : Str) := ⟨C8.fnScope_by (by decide +kernel), rfl, fun kV doc pm an cdv ct us hl => match us, hl with | [_, _, _], _ => rfl⟩
theorem t_law_hellos : TextOk f_law_hellos ("_law_hellos" : Str) := ⟨C8.fnScope_by (by decide +kernel), rfl, fun kV doc pm an cdv ct us hl => match us, hl with | [_, _, _], _ => rfl⟩
theorem t_law_power : TextOk f_law_power ("_law_power" : Str) := ⟨C8.fnScope_by (by decide +kernel), rfl, fun kV doc pm an cdv ct us hl => match us, hl with | [_], _ => rfl⟩
theorem t_law_prefix : TextOk f_law_prefix ("_law_prefix" : Str) := ⟨C8.fnScope_by (by decide +kernel), rfl, fun kV doc pm an cdv ct us hl => match us, hl with | [_, _], _ => rfl⟩
theorem t_law_edition : TextOk f_law_edition ("_law_edition" : Str) := ⟨C8.fnScope_by (by decide +kernel), rfl, fun kV doc pm an cdv ct us hl => match us, hl with | [_, _, _, _, _], _ => rfl⟩
theorem t_law_yes : TextOk f_law_yes ("_law_yes" : Str) := ⟨C8.fnScope_by (by decide +kernel), rfl, fun kV doc pm an cdv ct us hl => match us, hl with | [_], _ => rfl⟩
theorem t_law_text : TextOk f_law_text ("_law_text" : Str) := ⟨C8.fnScope_by (by decide +kernel), rfl, fun kV doc pm an cdv ct us hl => match us, hl with | [_], _ => rfl⟩
theorem t_law_window_rows : TextOk f_law_window_rows ("_law_window_rows" : Str) := ⟨C8.fnScope_by (by decide +kernel), rfl, fun kV doc pm an cdv ct us hl => match us, hl with | [_], _ => rfl⟩
theorem t_law_hello_rows : TextOk f_law_hello_rows ("_law_hello_rows" : Str) := ⟨C8.fnScope_by (by decide +kernel), rfl, fun kV doc pm an cdv ct us hl => match us, hl with | [_], _ => rfl⟩
theorem t_law_prefix_word : TextOk f_law_prefix_word ("_law_prefix_word" : Str) := ⟨C8.fnScope_by (by decide +kernel), rfl, fun kV doc pm an cdv ct us hl => match us, hl with | [_], _ => rfl⟩
theorem t_law_edition_rows : TextOk f_law_edition_rows ("_law_edition_rows" : Str) := ⟨C8.fnScope_by (by decide +kernel), rfl, fun kV doc pm an cdv ct us hl => match us, hl with | [_], _ => rfl⟩
theorem t_law_wide_edition : TextOk f_law_wide_edition ("_law_wide_edition" : Str) := ⟨C8.fnScope_by (by decide +kernel), rfl, fun kV doc pm an cdv ct us hl => match us, hl with | [_, _, _], _ => rfl⟩
theorem t_law : TextOk f_law ("law" : Str) := ⟨C8.fnScope_by (by decide +kernel), rfl, fun kV doc pm an cdv ct us hl => match us, hl with | [_], _ => rfl⟩
theorem text : ∀ x f, R.fns.lookup x = some f → TextOk f x := by
  intro x f h
  have h := lookup_in h
  simp only [R, List.mem_cons, List.not_mem_nil, or_false, Prod.mk.injEq] at h
  rcases h with ⟨rfl, rfl⟩ | ⟨rfl, rfl⟩ | ⟨rfl, rfl⟩ | ⟨rfl, rfl⟩ | ⟨rfl, rfl⟩ | ⟨rfl, rfl⟩ | ⟨rfl, rfl⟩ | ⟨rfl, rfl⟩ | ⟨rfl, rfl⟩ | ⟨rfl, rfl⟩ | ⟨rfl, rfl⟩ | ⟨rfl, rfl⟩ | ⟨rfl, rfl⟩ | ⟨rfl, rfl⟩ | ⟨rfl, rfl⟩ | ⟨rfl, rfl⟩ | ⟨rfl, rfl⟩ | ⟨rfl, rfl⟩ | ⟨rfl, rfl⟩ | ⟨rfl, rfl⟩ | ⟨rfl, rfl⟩ | ⟨rfl, rfl⟩ | ⟨rfl, rfl⟩ | ⟨rfl, rfl⟩ | ⟨rfl, rfl⟩ | ⟨rfl, rfl⟩ | ⟨rfl, rfl⟩ | ⟨rfl, rfl⟩ | ⟨rfl, rfl⟩ | ⟨rfl, rfl⟩ | ⟨rfl, rfl⟩ | ⟨rfl, rfl⟩ | ⟨rfl, rfl⟩ | ⟨rfl, rfl⟩ | ⟨rfl, rfl⟩ | ⟨rfl, rfl⟩
  · exact t_rows_text
  · exact t_truth_text
  · exact t_window_text
  · exact t_hello_text
  · exact t_prefix_text
  · exact t_edition_text
  · exact t_text_rows
  · exact t_read_number
  · exact t_read_state_table
  · exact t_check_whole
  · exact t_read_window_entry
  · exact t_read_window
  · exact t_read_hello_entry
  · exact t_read_hellos
  · exact t_read_prefix
  · exact t_read_rule
  · exact t_read_bits
  · exact t_read_edition
  · exact t_law_mixed
  · exact t_law_row
  · exact t_law_is_int
  · exact t_law_like
  · exact t_law_deed
  · exact t_law_window
  · exact t_law_hellos
  · exact t_law_power
  · exact t_law_prefix
  · exact t_law_edition
  · exact t_law_yes
  · exact t_law_text
  · exact t_law_window_rows
  · exact t_law_hello_rows
  · exact t_law_prefix_word
  · exact t_law_edition_rows
  · exact t_law_wide_edition
  · exact t_law
abbrev RW : PySem.W.OpenRow := PySem.W.OpenLaw.row PySem.Challenge.rw_roadblind_k91_table_texts
abbrev hk : PySem.W.Hook := He.hookX 5 R.facts R.defs R.tabs R.gens (exB R)
def ob (s : PySem.W.SharedT) : He.AlX := He.obsX 5 R.facts R.defs R.tabs R.gens (exB R) (HandSHeadRun.getT s)
theorem ob_eq (s : PySem.W.SharedT) : ob s = hk.obs s.abs := He.obsX_eq (HandSHeadRun.getT_eq s)
def loose0 : List Str := [("RoadblindError" : Str), ("BadText" : Str), ("AHEAD_DEEDS" : Str), ("FREE_DEEDS" : Str), ("SEEN_DEEDS" : Str), ("DEEDS" : Str), ("YES" : Str), ("NO" : Str), ("HELLO_DEEDS" : Str), ("MOST_RULES" : Str), ("rows_text" : Str), ("truth_text" : Str), ("window_text" : Str), ("hello_text" : Str), ("prefix_text" : Str), ("edition_text" : Str), ("text_rows" : Str), ("read_number" : Str), ("read_state_table" : Str), ("check_whole" : Str), ("read_window_entry" : Str), ("read_window" : Str), ("read_hello_entry" : Str), ("read_hellos" : Str), ("read_prefix" : Str), ("read_rule" : Str), ("read_bits" : Str), ("read_edition" : Str), ("_law_mixed" : Str), ("_law_row" : Str), ("_law_is_int" : Str), ("_law_like" : Str), ("_law_deed" : Str), ("_law_window" : Str), ("_law_hellos" : Str), ("_law_power" : Str), ("_law_prefix" : Str), ("_law_edition" : Str), ("_law_yes" : Str), ("_law_text" : Str)]
def loose1 : List Str := [("_law_window_rows" : Str), ("_law_hello_rows" : Str), ("_law_prefix_word" : Str), ("_law_edition_rows" : Str), ("_law_wide_edition" : Str)]
def loose : List Str := loose0 ++ loose1
theorem run : ∀ w : World, HandSHeadRun.RunEq RW (PySem.W.view RW.prog [48]) hk ob 4000 loose w :=
  PySem.W.byRow2 "special-get-raises" (P := fun w => HandSHeadRun.RunEq RW (PySem.W.view RW.prog [48]) hk ob 4000 loose w) (fun w => by intro os; kernel_rfl) (fun w => by intro os; kernel_rfl)
open PySem.W PySem.Calls in
theorem holds_of (k : Nat) (hr : Room (4 * k) callerA) (law : ∀ ns : List Int, ns.length ≤ 63 → (∀ z ∈ ns, Builtin.Int.intBits z ≤ 1048576) → ∃ st, R.den k "law" [.ilst (ns.map PV.int)] [] = .ok (.bl true) st) : PySem.Challenge.rw_roadblind_k91_table_texts.Holds := by
  w_on; o_law
  refine HandSHeadRun.head_any (r := OpenLaw.row PySem.Challenge.rw_roadblind_k91_table_texts) (q := view (OpenLaw.row PySem.Challenge.rw_roadblind_k91_table_texts).prog [48]) (H := hk) (ob := ob) (M := 4000) (loose := loose) (d := HandSHeadRun.topDef (OpenLaw.row PySem.Challenge.rw_roadblind_k91_table_texts).prog 48) (kwd := []) ob_eq
    (by kernel_rfl) (fun s => by kernel_rfl) run (by kernel_rfl) (by kernel_rfl) (by kernel_rfl) (by rfl) (by first | assumption | decide +kernel) (by decide +kernel) ⟨rfl, rfl, rfl, rfl, rfl, by decide +kernel⟩ ?hw ?hc
  case hw => w_witness2
  case hc =>
    refine LamX.walk_ofTsE (l := PySem.Challenge.rw_roadblind_k91_table_texts) (n := 63) (k := 4 * k) (x := "script") (CX := fun _ => CX0) rfl (by decide) (by kernel_rfl) hr ?F (fun _ _ _ _ _ z => z)
    intro w mg fa h Y G hmg0
    obtain ⟨K, KX, c⟩ := Y
    have hmg : mg ("law" : PySem.Str) = some (.ref fa) := by
      have e : (HandSHeadRun.topDef (OpenLaw.row PySem.Challenge.rw_roadblind_k91_table_texts).prog 48).name = ("law" : PySem.Str) := by kernel_rfl
      rw [← e]
      exact hmg0
    exact ⟨K, KX, law_at KX G c text (f := f_law) (by rfl) rfl hmg law⟩
end Ro_k91

namespace Ro_k91
open PySem PySem.Spec PyProof.Rows L2 PyI
def prg : Prg := ⟨R.den, (R.pp (fun _ _ => M.fail)).ar⟩
theorem r_rows_text (cl : Str → List PV → M PV) : f_rows_text.run (R.pp cl) = Sh.b_rows_text prg.ar cl := by kernel_rfl
theorem r_truth_text (cl : Str → List PV → M PV) : f_truth_text.run (R.pp cl) = Sh.b_truth_text prg.ar cl := by kernel_rfl
theorem r_window_text (cl : Str → List PV → M PV) : f_window_text.run (R.pp cl) = Sh.b_window_text prg.ar cl := by kernel_rfl
theorem r_hello_text (cl : Str → List PV → M PV) : f_hello_text.run (R.pp cl) = Sh.b_hello_text prg.ar cl := by kernel_rfl
theorem r_prefix_text (cl : Str → List PV → M PV) : f_prefix_text.run (R.pp cl) = Sh.b_prefix_text prg.ar cl := by kernel_rfl
theorem r_edition_text (cl : Str → List PV → M PV) : f_edition_text.run (R.pp cl) = Sh.b_edition_text prg.ar cl := by kernel_rfl
theorem r_text_rows (cl : Str → List PV → M PV) : f_text_rows.run (R.pp cl) = Sh.b_text_rows prg.ar cl := by kernel_rfl
theorem r_read_number (cl : Str → List PV → M PV) : f_read_number.run (R.pp cl) = Sh.b_read_number prg.ar cl := by kernel_rfl
theorem r_read_state_table (cl : Str → List PV → M PV) : f_read_state_table.run (R.pp cl) = Sh.b_read_state_table prg.ar cl := by kernel_rfl
theorem r_check_whole (cl : Str → List PV → M PV) : f_check_whole.run (R.pp cl) = Sh.b_check_whole prg.ar cl := by kernel_rfl
theorem r_read_window_entry (cl : Str → List PV → M PV) : f_read_window_entry.run (R.pp cl) = Sh.b_read_window_entry prg.ar cl := by kernel_rfl
theorem r_read_window (cl : Str → List PV → M PV) : f_read_window.run (R.pp cl) = Sh.b_read_window prg.ar cl := by kernel_rfl
theorem r_read_hello_entry (cl : Str → List PV → M PV) : f_read_hello_entry.run (R.pp cl) = Sh.b_read_hello_entry prg.ar cl := by kernel_rfl
theorem r_read_hellos (cl : Str → List PV → M PV) : f_read_hellos.run (R.pp cl) = Sh.b_read_hellos prg.ar cl := by kernel_rfl
theorem r_read_prefix (cl : Str → List PV → M PV) : f_read_prefix.run (R.pp cl) = Sh.b_read_prefix prg.ar cl := by kernel_rfl
theorem r_read_rule (cl : Str → List PV → M PV) : f_read_rule.run (R.pp cl) = Sh.b_read_rule prg.ar cl := by kernel_rfl
theorem r_read_bits (cl : Str → List PV → M PV) : f_read_bits.run (R.pp cl) = Sh.b_read_bits prg.ar cl := by kernel_rfl
theorem r_read_edition (cl : Str → List PV → M PV) : f_read_edition.run (R.pp cl) = Sh.b_read_edition prg.ar cl := by kernel_rfl
theorem r_law_mixed (cl : Str → List PV → M PV) : f_law_mixed.run (R.pp cl) = Sh.b_law_mixed prg.ar cl := by kernel_rfl
theorem r_law_row (cl : Str → List PV → M PV) : f_law_row.run (R.pp cl) = Sh.b_law_row prg.ar cl := by kernel_rfl
theorem r_law_is_int (cl : Str → List PV → M PV) : f_law_is_int.run (R.pp cl) = Sh.b_law_is_int prg.ar cl := by kernel_rfl
theorem r_law_like (cl : Str → List PV → M PV) : f_law_like.run (R.pp cl) = Sh.b_law_like prg.ar cl := by kernel_rfl
theorem r_law_deed (cl : Str → List PV → M PV) : f_law_deed.run (R.pp cl) = Sh.b_law_deed prg.ar cl := by kernel_rfl
theorem r_law_window (cl : Str → List PV → M PV) : f_law_window.run (R.pp cl) = Sh.b_law_window prg.ar cl := by kernel_rfl
theorem r_law_hellos (cl : Str → List PV → M PV) : f_law_hellos.run (R.pp cl) = Sh.b_law_hellos prg.ar cl := by kernel_rfl
theorem r_law_power (cl : Str → List PV → M PV) : f_law_power.run (R.pp cl) = Sh.b_law_power prg.ar cl := by kernel_rfl
theorem r_law_prefix (cl : Str → List PV → M PV) : f_law_prefix.run (R.pp cl) = Sh.b_law_prefix prg.ar cl := by kernel_rfl
theorem r_law_edition (cl : Str → List PV → M PV) : f_law_edition.run (R.pp cl) = Sh.b_law_edition prg.ar cl := by kernel_rfl
theorem r_law_yes (cl : Str → List PV → M PV) : f_law_yes.run (R.pp cl) = Sh.b_law_yes prg.ar cl := by kernel_rfl
theorem r_law_text (cl : Str → List PV → M PV) : f_law_text.run (R.pp cl) = Sh.b_law_text prg.ar cl := by kernel_rfl
theorem r_law_window_rows (cl : Str → List PV → M PV) : f_law_window_rows.run (R.pp cl) = Sh.b_law_window_rows prg.ar cl := by kernel_rfl
theorem r_law_hello_rows (cl : Str → List PV → M PV) : f_law_hello_rows.run (R.pp cl) = Sh.b_law_hello_rows prg.ar cl := by kernel_rfl
theorem r_law_prefix_word (cl : Str → List PV → M PV) : f_law_prefix_word.run (R.pp cl) = Sh.b_law_prefix_word prg.ar cl := by kernel_rfl
theorem r_law_edition_rows (cl : Str → List PV → M PV) : f_law_edition_rows.run (R.pp cl) = Sh.b_law_edition_rows prg.ar cl := by kernel_rfl
theorem r_law_wide_edition (cl : Str → List PV → M PV) : f_law_wide_edition.run (R.pp cl) = Sh.b_law_wide_edition_k91 prg.ar cl := by kernel_rfl
theorem r_law (cl : Str → List PV → M PV) : f_law.run (R.pp cl) = Sh.b_law_k91 prg.ar cl := by kernel_rfl
instance i_rows_text : Fn prg ("rows_text" : Str) 1 2 Sh.b_rows_text := ⟨fun n xs => congrArg (fun r : Sm => callP (r (startP 2 xs))) (r_rows_text (R.den n)), by kernel_rfl⟩
instance i_truth_text : Fn prg ("truth_text" : Str) 1 1 Sh.b_truth_text := ⟨fun n xs => congrArg (fun r : Sm => callP (r (startP 1 xs))) (r_truth_text (R.den n)), by kernel_rfl⟩
instance i_window_text : Fn prg ("window_text" : Str) 1 7 Sh.b_window_text := ⟨fun n xs => congrArg (fun r : Sm => callP (r (startP 7 xs))) (r_window_text (R.den n)), by kernel_rfl⟩
instance i_hello_text : Fn prg ("hello_text" : Str) 1 5 Sh.b_hello_text := ⟨fun n xs => congrArg (fun r : Sm => callP (r (startP 5 xs))) (r_hello_text (R.den n)), by kernel_rfl⟩
instance i_prefix_text : Fn prg ("prefix_text" : Str) 1 4 Sh.b_prefix_text := ⟨fun n xs => congrArg (fun r : Sm => callP (r (startP 4 xs))) (r_prefix_text (R.den n)), by kernel_rfl⟩
instance i_edition_text : Fn prg ("edition_text" : Str) 1 7 Sh.b_edition_text := ⟨fun n xs => congrArg (fun r : Sm => callP (r (startP 7 xs))) (r_edition_text (R.den n)), by kernel_rfl⟩
instance i_text_rows : Fn prg ("text_rows" : Str) 1 2 Sh.b_text_rows := ⟨fun n xs => congrArg (fun r : Sm => callP (r (startP 2 xs))) (r_text_rows (R.den n)), by kernel_rfl⟩
instance i_read_number : Fn prg ("read_number" : Str) 3 5 Sh.b_read_number := ⟨fun n xs => congrArg (fun r : Sm => callP (r (startP 5 xs))) (r_read_number (R.den n)), by kernel_rfl⟩
instance i_read_state_table : Fn prg ("read_state_table" : Str) 4 12 Sh.b_read_state_table := ⟨fun n xs => congrArg (fun r : Sm => callP (r (startP 12 xs))) (r_read_state_table (R.den n)), by kernel_rfl⟩
instance i_check_whole : Fn prg ("check_whole" : Str) 4 6 Sh.b_check_whole := ⟨fun n xs => congrArg (fun r : Sm => callP (r (startP 6 xs))) (r_check_whole (R.den n)), by kernel_rfl⟩
instance i_read_window_entry : Fn prg ("read_window_entry" : Str) 2 4 Sh.b_read_window_entry := ⟨fun n xs => congrArg (fun r : Sm => callP (r (startP 4 xs))) (r_read_window_entry (R.den n)), by kernel_rfl⟩
instance i_read_window : Fn prg ("read_window" : Str) 2 2 Sh.b_read_window := ⟨fun n xs => congrArg (fun r : Sm => callP (r (startP 2 xs))) (r_read_window (R.den n)), by kernel_rfl⟩
instance i_read_hello_entry : Fn prg ("read_hello_entry" : Str) 2 4 Sh.b_read_hello_entry := ⟨fun n xs => congrArg (fun r : Sm => callP (r (startP 4 xs))) (r_read_hello_entry (R.den n)), by kernel_rfl⟩
instance i_read_hellos : Fn prg ("read_hellos" : Str) 2 2 Sh.b_read_hellos := ⟨fun n xs => congrArg (fun r : Sm => callP (r (startP 2 xs))) (r_read_hellos (R.den n)), by kernel_rfl⟩
instance i_read_prefix : Fn prg ("read_prefix" : Str) 2 3 Sh.b_read_prefix := ⟨fun n xs => congrArg (fun r : Sm => callP (r (startP 3 xs))) (r_read_prefix (R.den n)), by kernel_rfl⟩
instance i_read_rule : Fn prg ("read_rule" : Str) 2 6 Sh.b_read_rule := ⟨fun n xs => congrArg (fun r : Sm => callP (r (startP 6 xs))) (r_read_rule (R.den n)), by kernel_rfl⟩
instance i_read_bits : Fn prg ("read_bits" : Str) 1 2 Sh.b_read_bits := ⟨fun n xs => congrArg (fun r : Sm => callP (r (startP 2 xs))) (r_read_bits (R.den n)), by kernel_rfl⟩
instance i_read_edition : Fn prg ("read_edition" : Str) 1 8 Sh.b_read_edition := ⟨fun n xs => congrArg (fun r : Sm => callP (r (startP 8 xs))) (r_read_edition (R.den n)), by kernel_rfl⟩
instance i_law_mixed : Fn prg ("_law_mixed" : Str) 2 6 Sh.b_law_mixed := ⟨fun n xs => congrArg (fun r : Sm => callP (r (startP 6 xs))) (r_law_mixed (R.den n)), by kernel_rfl⟩
instance i_law_row : Fn prg ("_law_row" : Str) 2 5 Sh.b_law_row := ⟨fun n xs => congrArg (fun r : Sm => callP (r (startP 5 xs))) (r_law_row (R.den n)), by kernel_rfl⟩
instance i_law_is_int : Fn prg ("_law_is_int" : Str) 1 1 Sh.b_law_is_int := ⟨fun n xs => congrArg (fun r : Sm => callP (r (startP 1 xs))) (r_law_is_int (R.den n)), by kernel_rfl⟩
instance i_law_like : Fn prg ("_law_like" : Str) 2 3 Sh.b_law_like := ⟨fun n xs => congrArg (fun r : Sm => callP (r (startP 3 xs))) (r_law_like (R.den n)), by kernel_rfl⟩
instance i_law_deed : Fn prg ("_law_deed" : Str) 2 2 Sh.b_law_deed := ⟨fun n xs => congrArg (fun r : Sm => callP (r (startP 2 xs))) (r_law_deed (R.den n)), by kernel_rfl⟩
instance i_law_window : Fn prg ("_law_window" : Str) 3 9 Sh.b_law_window := ⟨fun n xs => congrArg (fun r : Sm => callP (r (startP 9 xs))) (r_law_window (R.den n)), by kernel_rfl⟩
instance i_law_hellos : Fn prg ("_law_hellos" : Str) 3 9 Sh.b_law_hellos := ⟨fun n xs => congrArg (fun r : Sm => callP (r (startP 9 xs))) (r_law_hellos (R.den n)), by kernel_rfl⟩
instance i_law_power : Fn prg ("_law_power" : Str) 1 3 Sh.b_law_power := ⟨fun n xs => congrArg (fun r : Sm => callP (r (startP 3 xs))) (r_law_power (R.den n)), by kernel_rfl⟩
instance i_law_prefix : Fn prg ("_law_prefix" : Str) 2 3 Sh.b_law_prefix := ⟨fun n xs => congrArg (fun r : Sm => callP (r (startP 3 xs))) (r_law_prefix (R.den n)), by kernel_rfl⟩
instance i_law_edition : Fn prg ("_law_edition" : Str) 5 9 Sh.b_law_edition := ⟨fun n xs => congrArg (fun r : Sm => callP (r (startP 9 xs))) (r_law_edition (R.den n)), by kernel_rfl⟩
instance i_law_yes : Fn prg ("_law_yes" : Str) 1 1 Sh.b_law_yes := ⟨fun n xs => congrArg (fun r : Sm => callP (r (startP 1 xs))) (r_law_yes (R.den n)), by kernel_rfl⟩
instance i_law_text : Fn prg ("_law_text" : Str) 1 2 Sh.b_law_text := ⟨fun n xs => congrArg (fun r : Sm => callP (r (startP 2 xs))) (r_law_text (R.den n)), by kernel_rfl⟩
instance i_law_window_rows : Fn prg ("_law_window_rows" : Str) 1 7 Sh.b_law_window_rows := ⟨fun n xs => congrArg (fun r : Sm => callP (r (startP 7 xs))) (r_law_window_rows (R.den n)), by kernel_rfl⟩
instance i_law_hello_rows : Fn prg ("_law_hello_rows" : Str) 1 4 Sh.b_law_hello_rows := ⟨fun n xs => congrArg (fun r : Sm => callP (r (startP 4 xs))) (r_law_hello_rows (R.den n)), by kernel_rfl⟩
instance i_law_prefix_word : Fn prg ("_law_prefix_word" : Str) 1 4 Sh.b_law_prefix_word := ⟨fun n xs => congrArg (fun r : Sm => callP (r (startP 4 xs))) (r_law_prefix_word (R.den n)), by kernel_rfl⟩
instance i_law_edition_rows : Fn prg ("_law_edition_rows" : Str) 1 5 Sh.b_law_edition_rows := ⟨fun n xs => congrArg (fun r : Sm => callP (r (startP 5 xs))) (r_law_edition_rows (R.den n)), by kernel_rfl⟩
instance i_law_wide_edition : Fn prg ("_law_wide_edition" : Str) 3 7 Sh.b_law_wide_edition_k91 := ⟨fun n xs => congrArg (fun r : Sm => callP (r (startP 7 xs))) (r_law_wide_edition (R.den n)), by kernel_rfl⟩
instance i_law : Fn prg ("law" : Str) 1 9 Sh.b_law_k91 := ⟨fun n xs => congrArg (fun r : Sm => callP (r (startP 9 xs))) (r_law (R.den n)), by kernel_rfl⟩
end Ro_k91

namespace Ro_k91
open PySem PyI Sh L2 TL
theorem or2 {a b : Tn} {env : EnvP} {st st1 st2 : Store} (ha : a env st = .ok false st1) (hb : b env st1 = .ok false st2) : cOrs [a, b] env st = .ok false st2 := (or_f ha).trans hb
theorem andV2 {a b : Dn} {env : EnvP} {st st1 st2 : Store} (ha : a env st = .ok (.bl true) st1) (hb : b env st1 = .ok (.bl true) st2) : cAndsV [a, b] env st = .ok (.bl true) st2 := (andV_t ha).trans hb
theorem law_ok (ns : List Int) : ∃ st, R.den 20 "law" [.ilst (ns.map PV.int)] [] = .ok (.bl true) st := by
  have i := i_law
  obtain ⟨vs, hlen, hv, hrow⟩ := law_row_ok (D := prg) (n := 17) ns 200 (by decide) []
  generalize hN : PV.ilst (ns.map PV.int) = N at hrow ⊢
  have k0 : ∀ st : Store, (rowOb vs :: st)[0]? = some (rowOb vs) := fun _ => rfl
  have at_ : ∀ (j : Nat), j < 200 → ∀ st : Store, getItemP (.obj 0) (.int (j : Nat)) (rowOb vs :: st) = .ok (.int (vs.getD j 0 : Nat)) (rowOb vs :: st) := fun j hj st => getD_nat (k0 st) (by omega)
  have md : ∀ (c m : Nat), ((c : Nat) : Int) % (m : Nat) = ((c % m : Nat) : Int) := fun c m => by push_cast; rfl
  -- the tables
  generalize hw : lawWindow vs 2 (1 + vs.getD 122 0 % 5) = w
  generalize hh : lawHellos vs 123 (1 + vs.getD 163 0 % 4) = hl
  have m5 : vs.getD 122 0 % 5 < 5 := Nat.mod_lt _ (by decide)
  have m4 : vs.getD 163 0 % 4 < 4 := Nat.mod_lt _ (by decide)
  have m16 : vs.getD 164 0 % 16 < 16 := Nat.mod_lt _ (by decide)
  have m12 : vs.getD 164 0 % 12 < 12 := Nat.mod_lt _ (by decide)
  obtain ⟨w1, w2⟩ := lawWindow_ok vs 2 (states := 1 + vs.getD 122 0 % 5) (by omega)
  obtain ⟨h1, h2⟩ := lawHellos_ok vs 123 (states := 1 + vs.getD 163 0 % 4) (by omega)
  have ww := fun st => law_window_ok (D := prg) (n := 17) (at' := 2) (states := 1 + vs.getD 122 0 % 5) (k0 st) (by omega) (by omega) (by omega) (by omega)
  have hhh := fun st => law_hellos_ok (D := prg) (n := 18) (at' := 123) (states := 1 + vs.getD 163 0 % 4) (k0 st) (by omega) (by omega) (by omega) (by omega)
  rw [hw] at w1 w2 ww
  rw [hh] at h1 h2 hhh
  -- the edition
  generalize hb : (if vs.getD 193 0 % 6 = 2 then 5 + vs.getD 164 0 % 12 else 1 + vs.getD 164 0 % 16) = bits
  have b1 : 1 ≤ bits ∧ bits ≤ 16 := by rw [← hb]; split <;> omega
  obtain ⟨rs, e1, e2⟩ := law_wide_edition_ok (D := prg) (n := 15) (at' := 165) (bits := bits) (k0 []) (by omega) (by omega) (fun h => by
    rw [← hb, if_pos (show vs.getD 193 0 % 6 = 2 from h)]; omega)
  have wl1 : 1 ≤ w.length ∧ w.length ≤ 5 := by omega
  have hl1 : 1 ≤ hl.length ∧ hl.length ≤ 4 := by omega
  have c1 : ((1 : Int) + ((vs.getD 0 0 % 4 : Nat) : Int)) = ((1 + vs.getD 0 0 % 4 : Nat) : Int) := by omega
  have c2 : ((1 : Int) + ((vs.getD 1 0 % 3 : Nat) : Int)) = ((1 + vs.getD 1 0 % 3 : Nat) : Int) := by omega
  have c3 : ((1 : Int) + ((vs.getD 122 0 % 5 : Nat) : Int)) = ((1 + vs.getD 122 0 % 5 : Nat) : Int) := by omega
  have c4 : ((1 : Int) + ((vs.getD 163 0 % 4 : Nat) : Int)) = ((1 + vs.getD 163 0 % 4 : Nat) : Int) := by omega
  have c5 : ((1 : Int) + ((vs.getD 164 0 % 16 : Nat) : Int)) = ((1 + vs.getD 164 0 % 16 : Nat) : Int) := by omega
  have c6 : ((5 : Int) + ((vs.getD 164 0 % 12 : Nat) : Int)) = ((5 + vs.getD 164 0 % 12 : Nat) : Int) := by omega
  suffices h : (prg (19 + 1) ("law" : Str) [N] []).P fun d _ => d = .bl true by
    obtain ⟨d, st, e, hd⟩ := P_get h
    exact ⟨st, by rw [← hd]; exact e⟩
  refine fn_P (D := prg) (n := 19) [some N, none, none, none, none, none, none, none, none] (by rfl) ?_
  unfold b_law_k91
  have idx := fun (j : Nat) (hj : j < 200) (st : Store) (m : Nat) (hm : 0 < m) (env : EnvP) (e : env[1]? = some (some (.obj 0))) =>
    (show (cBin opMod (cApp bInt2 (cArgs [cBin getItemP (cVar 1) (cC (.int (j : Nat)))])) (cC (.int (m : Nat)))) env (rowOb vs :: st) = .ok (.int ((vs.getD j 0 % m : Nat) : Int)) (rowOb vs :: st) from
      modI (int1 ((bin_ok (var_ok e) cst).trans (at_ j hj st))) cst (by omega) (md _ _))
  refine P_asg (call_ok' (args2 (var_ok rfl) cst) rfl hrow) ?_
  refine P_asg (addI cst (idx 0 (by omega) [] 4 (by omega) _ rfl) c1) ?_
  refine P_asg (addI cst (idx 1 (by omega) [] 3 (by omega) _ rfl) c2) ?_
  refine P_asg (call_ok' (args3 (var_ok rfl) cst (addI cst (idx 122 (by omega) [] 5 (by omega) _ rfl) c3)) rfl (ww [])) ?_
  refine P_asg (call_ok' (args3 (var_ok rfl) cst (addI cst (idx 163 (by omega) [] 4 (by omega) _ rfl) c4)) rfl (hhh [])) ?_
  refine P_asg (addI cst (idx 164 (by omega) [] 16 (by omega) _ rfl) c5) ?_
  generalize hwidth : ((1 + vs.getD 0 0 % 4 : Nat) : Int) = width
  generalize hmost : ((1 + vs.getD 1 0 % 3 : Nat) : Int) = most
  have seven : ∀ (env : EnvP) (Q : QF) (rest : Sm), env = [some N, some (.obj 0), some (.int width), some (.int most), some (encW w), some (encH hl), some (.int ((1 + vs.getD 164 0 % 16 : Nat) : Int)), none, none] →
      (rest [some N, some (.obj 0), some (.int width), some (.int most), some (encW w), some (encH hl), some (.int (bits : Nat)), none, none] [rowOb vs]).P Q →
      (sSeq (sIf (cTest (cBin (opEqB false) (cBin opMod (cBin getItemP (cVar 1) (cBin opAdd (cC (.int (165))) (cC (.int (28))))) (cC (.int (6)))) (cC (.int (2))))) (sSeq (sAsg (cBin opAdd (cC (.int (5))) (cBin opMod (cApp bInt2 (cArgs [cBin getItemP (cVar 1) (cC (.int (164)))])) (cC (.int (12))))) (.name 6)) (sNext)) (sNext)) rest env [rowOb vs]).P Q := by
    rintro env Q rest rfl hr
    have t : (cTest (cBin (opEqB false) (cBin opMod (cBin getItemP (cVar 1) (cBin opAdd (cC (.int (165))) (cC (.int (28))))) (cC (.int (6)))) (cC (.int (2))))) [some N, some (.obj 0), some (.int width), some (.int most), some (encW w), some (encH hl), some (.int ((1 + vs.getD 164 0 % 16 : Nat) : Int)), none, none] [rowOb vs] = .ok (((vs.getD 193 0 % 6 : Nat) : Int) == 2) [rowOb vs] :=
      test_ok (eqI (modI ((bin_ok (var_ok rfl) (addI cst cst rfl)).trans (at_ 193 (by omega) [])) cst (by omega) (md _ 6)) cst rfl)
    by_cases h : vs.getD 193 0 % 6 = 2
    · rw [h] at t
      rw [if_pos h] at hb
      refine P_ift t (P_asg (addI cst (idx 164 (by omega) [] 12 (by omega) _ rfl) c6) (P_next ?_))
      rw [hb]
      exact hr
    · have : (((vs.getD 193 0 % 6 : Nat) : Int) == 2) = false := by simp only [beq_eq_false_iff_ne]; omega
      rw [this] at t
      rw [if_neg h] at hb
      refine P_if0 t ?_
      rw [hb]
      exact hr
  refine seven _ _ _ rfl ?_
  refine P_asg (call_ok' (args3 (var_ok rfl) cst (var_ok rfl)) rfl e2) ?_
  -- the window's texts
  have tW := law_window_rows_ok (D := prg) (n := 17) (st := [rowOb vs]) w1 (by omega)
  have smallW : ∀ r ∈ rowsOf WE.row w, r.length ≤ 2000 := fun r hr => by
    obtain ⟨es, hes, hr⟩ := List.mem_flatMap.mp hr
    rcases List.mem_cons.mp hr with rfl | hr
    · decide +kernel
    · obtain ⟨e, he, rfl⟩ := List.mem_map.mp hr
      obtain ⟨k, hk, _⟩ := mem_get he
      exact Nat.le_trans (row_len_le (WE.ws_len (w1.ent es hes k e hk) (by omega))) (by show 11 * 4 ≤ 2000; decide)
  have smallH : ∀ r ∈ rowsOf HE.row hl, r.length ≤ 2000 := fun r hr => by
    obtain ⟨es, hes, hr⟩ := List.mem_flatMap.mp hr
    rcases List.mem_cons.mp hr with rfl | hr
    · decide +kernel
    · obtain ⟨e, he, rfl⟩ := List.mem_map.mp hr
      obtain ⟨k, hk, _⟩ := mem_get he
      exact Nat.le_trans (row_len_le (HE.ws_len (h1.ent es hes k e hk) (by omega))) (by show 11 * 2 ≤ 2000; decide)
  refine P_asg (call_ok' (args1 (call_ok' (args1 (var_ok rfl)) rfl tW)) rfl (law_text_ok (getL rfl) smallW (by rw [rows_length w1.len]; omega))) ?_
  have lkS : ∀ (s : Str) (st : Store), prg 19 ("_law_like" : Str) [.str s, .str s] st = .ok (.bl true) st := fun s st => law_like_ok (D := prg) (n := 17) (d := 0) (lk_atom rfl 0)
  have lkW : ∀ st, prg 19 ("_law_like" : Str) [encW w, encW w] st = .ok (.bl true) st := fun st => law_like_ok (D := prg) (n := 14) (d := 3) (lk_encT (by omega) fun r hr => lk_encT (by have := w1.len r hr; omega) fun e _ => lk_we e)
  have lkH : ∀ st, prg 19 ("_law_like" : Str) [encH hl, encH hl] st = .ok (.bl true) st := fun st => law_like_ok (D := prg) (n := 14) (d := 3) (lk_encT (by omega) fun r hr => lk_encT (by have := h1.len r hr; omega) fun e _ => lk_he e)
  have lkE : ∀ st, prg 19 ("_law_like" : Str) [edPV bits rs, edPV bits rs] st = .ok (.bl true) st := fun st => law_like_ok (D := prg) (n := 13) (d := 4) (lk_ed (by have := e1.len; omega))
  refine P_if0 (or2 (not_ok (b := true) (truth_ok (call_ok' (args2 (call_ok' (args2 (var_ok rfl) (var_ok rfl)) rfl (read_window_ok (D := prg) (n := 15) w1 wl1.1 wl1.2)) (var_ok rfl)) rfl (lkW _)))) (not_ok (b := true) (truth_ok (call_ok' (args2 (call_ok' (args1 (var_ok rfl)) rfl (window_text_ok (D := prg) (n := 17) w1 (by omega))) (var_ok rfl)) rfl (lkS _ _))))) ?_
  -- the hello table's
  obtain ⟨oh, sh, eh, rfl, G, rfl⟩ := P_get (law_hello_rows_ok (D := prg) (n := 18) (st := [rowOb vs] ++ [Ob.lst ((rowsOf WE.row w).map PV.str)]) h1 (by omega))
  refine P_asg (call_ok' (args1 (call_ok' (args1 (var_ok rfl)) rfl eh)) rfl (law_text_ok (getL rfl) smallH (by rw [rows_length h1.len]; omega))) ?_
  refine P_if0 (or2 (not_ok (b := true) (truth_ok (call_ok' (args2 (call_ok' (args2 (var_ok rfl) (var_ok rfl)) rfl (read_hellos_ok (D := prg) (n := 15) h1 hl1.1 hl1.2)) (var_ok rfl)) rfl (lkH _)))) (not_ok (b := true) (truth_ok (call_ok' (args2 (call_ok' (args1 (var_ok rfl)) rfl (hello_text_ok (D := prg) (n := 17) h1 (by omega))) (var_ok rfl)) rfl (lkS _ _))))) ?_
  -- the edition's
  have hE : (edRows bits rs).length ≤ 5100 := by have := e1.len; simp [edRows]; omega
  refine P_asg (call_ok' (args1 (call_ok' (args1 (var_ok rfl)) rfl (law_edition_rows_ok (D := prg) (n := 16) e1 b1.2))) rfl (law_text_ok (by simp) (edrow_len e1 b1.2) hE)) ?_
  exact P_ret (andV2 (call_ok' (args2 (call_ok' (args1 (var_ok rfl)) rfl (read_edition_ok (D := prg) (n := 16) e1 b1.2 b1.1)) (var_ok rfl)) rfl (lkE _)) (call_ok' (args2 (call_ok' (args1 (var_ok rfl)) rfl (edition_text_ok (D := prg) (n := 17) e1 b1.2)) (var_ok rfl)) rfl (lkS _ _))) ⟨_, .inl rfl, rfl⟩
end Ro_k91

open PySem PySem.W PyProof.Rows
theorem PySem.Challenge.cw_roadblind_k91_table_texts_holds : PySem.Challenge.rw_roadblind_k91_table_texts.Holds :=
  Ro_k91.holds_of 20 ⟨rfl, by decide, by decide⟩ fun ns _ _ => Ro_k91.law_ok ns
