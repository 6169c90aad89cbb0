import PyProof.Rows.All
import Wide.All
import OpenK.AllK
import Wide.FinOn
import HandS.ForMost
import HandS.ForExc
import HandS.CallSlots
import HandS.Wide
import HandS.Flow
import HandS.TupAny
import HandS.TupMul
import HandS.Style
import HandS.IsInst
import HandS.Strs
import HandS.Conv
import HandS.More
import PyProof.EqAt
import PyProof.EqKinds
import PyProof.P3Eq
import PyProof.NeData
import HandS.Defaults
import HandS.Head0
import HandS.Head1
import HandS.Head2
import HandS.HeadEnd
import HandS.HeadHook1
import HandS.HeadHook2
import HandS.HeadHook3
import HandS.HeadHook4
import HandS.EndBits
import HandS.DictComp
import PyProof.InstNe
import PySem.Challenge.RW_townpost_k01_terms_judged
set_option Elab.async false
set_option linter.all false
set_option maxRecDepth 100000
/-! A layer of plain data over HandS: tuples as trees, mutable objects in a store, defs as functions on them. -/
namespace DL
open PySem PySem.Spec L2
open PyProof.Rows hiding St

/-- data: tuples are trees, what can change stands in the store -/
inductive D where
  | non | bl (b : Bool) | int (i : Int) | str (x : Str) | tup (l : List D) | ref (r : Nat)
  /-- a list that nobody changes -/
  | fro (l : List D)
inductive O where
  | lst (l : List D) | dic (kvs : List (D × D)) | ins (c : Nat) (fs : List (Str × D))
abbrev Store := List O
/-- an exception: its class, the attributes of one that has some -/
structure Ex where
  c : Nat
  fs : Option (List (Str × D))
inductive Res (α : Type) where
  | ok (a : α) (S : Store) | err (x : Ex) (S : Store) | bad
abbrev M (α : Type) := Store → Res α
abbrev DEnv := List (Option D)
inductive Out where
  | nx (η : DEnv) (S : Store) | rt (d : D) (S : Store) | bk (η : DEnv) (S : Store) | ct (η : DEnv) (S : Store) | err (x : Ex) (η : DEnv) (S : Store) | bad
abbrev DE := DEnv → M D
abbrev DT := DEnv → M Bool
abbrev DA := DEnv → M (List D)
abbrev DS := DEnv → Store → Out
abbrev DG := D → DEnv → M DEnv
@[inline] def Res.bind {α β : Type} (r : Res α) (f : α → Store → Res β) : Res β :=
  match r with | .ok a S => f a S | .err x S => .err x S | .bad => .bad

/-! ### data and values -/
def SqF (K : PySem.W.Frag) (H : Hp) (a : Addr) (xs : List V) : Prop := (∃ o, H a = some (.frz o (.lst xs))) ∨
  ∃ (o : Obj) (its : Array Value) (n : Nat), K.lookup a = some o ∧ o.cls = .type "list" ∧ o.dict = none ∧ o.data = .seq its n ∧ its.size ≤ sizeLine ∧ Vals xs its.toList
theorem SqF.sq {K : PySem.W.Frag} {H : Hp} {a : Addr} {xs : List V} (h : SqF K H a xs) : SqL K H a xs := by
  rcases h with ⟨o, h⟩ | h
  · exact .inl (.inr ⟨o, h⟩)
  · exact .inr h
mutual
inductive RD (K : PySem.W.Frag) (H : Hp) (ρ : List Addr) : V → D → Prop
  | non : RD K H ρ .non .non
  | bl (b : Bool) : RD K H ρ (.bl b) (.bl b)
  | int (i : Int) : RD K H ρ (.int i) (.int i)
  | str (x : Str) : RD K H ρ (.str x) (.str x)
  | tup {a : Addr} {vs : List V} {l : List D} : SqT K H a vs → RDs K H ρ vs l → RD K H ρ (.ref a) (.tup l)
  | ref {a : Addr} {r : Nat} : ρ[r]? = some a → RD K H ρ (.ref a) (.ref r)
  | fro {a : Addr} {vs : List V} {l : List D} : SqF K H a vs → RDs K H ρ vs l → RD K H ρ (.ref a) (.fro l)
inductive RDs (K : PySem.W.Frag) (H : Hp) (ρ : List Addr) : List V → List D → Prop
  | nil : RDs K H ρ [] []
  | cons {v : V} {d : D} {vs : List V} {ds : List D} : RD K H ρ v d → RDs K H ρ vs ds → RDs K H ρ (v :: vs) (d :: ds)
end
inductive RF (K : PySem.W.Frag) (H : Hp) (ρ : List Addr) : List (Str × V) → List (Str × D) → Prop
  | nil : RF K H ρ [] []
  | cons {f : Str} {v : V} {d : D} {vs : List (Str × V)} {ds : List (Str × D)} : RD K H ρ v d → RF K H ρ vs ds → RF K H ρ ((f, v) :: vs) ((f, d) :: ds)
def keyD : Key → D
  | .inl i => .int i
  | .inr x => .str x
inductive RK (K : PySem.W.Frag) (H : Hp) (ρ : List Addr) : List (Key × V) → List (D × D) → Prop
  | nil : RK K H ρ [] []
  | cons {k : Key} {v : V} {d : D} {vs : List (Key × V)} {ds : List (D × D)} : RD K H ρ v d → RK K H ρ vs ds → RK K H ρ ((k, v) :: vs) ((keyD k, d) :: ds)
def RO (K : PySem.W.Frag) (cls : Nat → Addr) (H : Hp) (ρ : List Addr) (a : Addr) : O → Prop
  | .lst l => ∃ vs, H a = some (.lst vs) ∧ RDs K H ρ vs l
  | .dic kvs => ∃ kk, H a = some (.dK kk) ∧ RK K H ρ kk kvs
  | .ins c fs => ∃ dx vfs, H a = some (.ins (cls c) dx vfs) ∧ RF K H ρ vfs fs
structure RS (K : PySem.W.Frag) (cls : Nat → Addr) (H : Hp) (ρ : List Addr) (S : Store) : Prop where
  len : ρ.length = S.length
  nd : ρ.Nodup
  ob : ∀ (r : Nat) (o : O), S[r]? = some o → ∃ a, ρ[r]? = some a ∧ RO K cls H ρ a o
def RE (K : PySem.W.Frag) (H : Hp) (ρ : List Addr) : St → DEnv → Prop := Paired fun v d => match v, d with
  | none, none => True
  | some v, some d => RD K H ρ v d
  | _, _ => False

/-- how abstract heaps go on -/
structure Ext (H : Hp) (ρ : List Addr) (H' : Hp) (ρ' : List Addr) : Prop where
  pre : ∃ more, ρ' = ρ ++ more ∧ ∀ b ∈ more, H b = none
  keep : ∀ b o, b ∉ ρ → H b = some o → H' b = some o
  dom : ∀ b o, H b = some o → ∃ o', H' b = some o'
  tup : ∀ b xs, H b = some (.tup xs) → H' b = some (.tup xs)
  frz : ∀ b o u, H b = some (.frz o u) → H' b = some (.frz o u)
theorem Ext.refl (H : Hp) (ρ : List Addr) : Ext H ρ H ρ := ⟨⟨[], by simp, by simp⟩, fun _ _ _ h => h, fun _ o h => ⟨o, h⟩, fun _ _ h => h, fun _ _ _ h => h⟩
theorem Ext.trans {H H1 H2 : Hp} {ρ ρ1 ρ2 : List Addr} (a : Ext H ρ H1 ρ1) (b : Ext H1 ρ1 H2 ρ2) : Ext H ρ H2 ρ2 := by
  obtain ⟨m1, e1, n1⟩ := a.pre
  obtain ⟨m2, e2, n2⟩ := b.pre
  refine ⟨⟨m1 ++ m2, by rw [e2, e1, List.append_assoc], fun c hc => ?_⟩, fun c o hc h => ?_, fun c o h => ?_, fun c xs h => b.tup c xs (a.tup c xs h), fun c o u h => b.frz c o u (a.frz c o u h)⟩
  · rcases List.mem_append.mp hc with h | h
    · exact n1 c h
    · cases q : H c with
      | none => rfl
      | some o =>
        obtain ⟨o', q'⟩ := a.dom c o q
        rw [n2 c h] at q'; cases q'
  · refine b.keep c o (fun hm => ?_) (a.keep c o hc h)
    rw [e1] at hm
    rcases List.mem_append.mp hm with q | q
    · exact hc q
    · rw [n1 c q] at h; cases h
  · obtain ⟨o', q⟩ := a.dom c o h
    exact b.dom c o' q
theorem Ext.at {H H' : Hp} {ρ ρ' : List Addr} (e : Ext H ρ H' ρ') {r : Nat} {a : Addr} (h : ρ[r]? = some a) : ρ'[r]? = some a := by
  obtain ⟨m, e1, _⟩ := e.pre
  rw [e1, List.getElem?_append_left (List.getElem?_eq_some_iff.mp h).1]
  exact h
theorem SqT.ext {K : PySem.W.Frag} {H H' : Hp} {ρ ρ' : List Addr} (e : Ext H ρ H' ρ') {a : Addr} {xs : List V} (h : SqT K H a xs) : SqT K H' a xs := by
  rcases h with (h | ⟨o, h⟩) | h
  · exact .inl (.inl (e.tup _ _ h))
  · exact .inl (.inr ⟨o, e.frz _ _ _ h⟩)
  · exact .inr h
theorem SqF.ext {K : PySem.W.Frag} {H H' : Hp} {ρ ρ' : List Addr} (e : Ext H ρ H' ρ') {a : Addr} {xs : List V} (h : SqF K H a xs) : SqF K H' a xs := by
  rcases h with ⟨o, h⟩ | h
  · exact .inl ⟨o, e.frz _ _ _ h⟩
  · exact .inr h
mutual
theorem RD.ext {K : PySem.W.Frag} {H H' : Hp} {ρ ρ' : List Addr} (e : Ext H ρ H' ρ') : ∀ {v : V} {d : D}, RD K H ρ v d → RD K H' ρ' v d
  | _, _, .non => .non
  | _, _, .bl b => .bl b
  | _, _, .int i => .int i
  | _, _, .str x => .str x
  | _, _, .tup h t => .tup (SqT.ext e h) (RDs.ext e t)
  | _, _, .ref h => .ref (e.at h)
  | _, _, .fro h t => .fro (SqF.ext e h) (RDs.ext e t)
theorem RDs.ext {K : PySem.W.Frag} {H H' : Hp} {ρ ρ' : List Addr} (e : Ext H ρ H' ρ') : ∀ {vs : List V} {ds : List D}, RDs K H ρ vs ds → RDs K H' ρ' vs ds
  | _, _, .nil => .nil
  | _, _, .cons h t => .cons (RD.ext e h) (RDs.ext e t)
end
theorem RE.ext {K : PySem.W.Frag} {H H' : Hp} {ρ ρ' : List Addr} (e : Ext H ρ H' ρ') {σ : St} {η : DEnv} (h : RE K H ρ σ η) : RE K H' ρ' σ η :=
  Paired.mapP h fun v d q => by
    cases v <;> cases d <;> first | exact q | exact RD.ext e q
theorem RF.ext {K : PySem.W.Frag} {H H' : Hp} {ρ ρ' : List Addr} (e : Ext H ρ H' ρ') : ∀ {vs : List (Str × V)} {ds : List (Str × D)}, RF K H ρ vs ds → RF K H' ρ' vs ds
  | _, _, .nil => .nil
  | _, _, .cons h t => .cons (RD.ext e h) (RF.ext e t)
theorem RK.ext {K : PySem.W.Frag} {H H' : Hp} {ρ ρ' : List Addr} (e : Ext H ρ H' ρ') : ∀ {vs : List (Key × V)} {ds : List (D × D)}, RK K H ρ vs ds → RK K H' ρ' vs ds
  | _, _, .nil => .nil
  | _, _, .cons h t => .cons (RD.ext e h) (RK.ext e t)
theorem RDs.length {K : PySem.W.Frag} {H : Hp} {ρ : List Addr} : ∀ {vs : List V} {ds : List D}, RDs K H ρ vs ds → vs.length = ds.length
  | _, _, .nil => rfl
  | _, _, .cons _ t => congrArg (· + 1) (RDs.length t)
theorem RDs.get {K : PySem.W.Frag} {H : Hp} {ρ : List Addr} : ∀ {vs : List V} {ds : List D} {i : Nat} {v : V}, RDs K H ρ vs ds → vs[i]? = some v → ∃ d, ds[i]? = some d ∧ RD K H ρ v d
  | _, _, _, _, .nil, e => by simp at e
  | _, _, 0, _, .cons h _, e => ⟨_, rfl, by simp at e; rw [← e]; exact h⟩
  | _, _, i + 1, v, .cons _ t, e => by
    obtain ⟨d, h1, h2⟩ := RDs.get (i := i) (v := v) t (by simpa using e)
    exact ⟨d, by simpa using h1, h2⟩
theorem RDs.get' {K : PySem.W.Frag} {H : Hp} {ρ : List Addr} : ∀ {vs : List V} {ds : List D} {i : Nat} {d : D}, RDs K H ρ vs ds → ds[i]? = some d → ∃ v, vs[i]? = some v ∧ RD K H ρ v d
  | _, _, _, _, .nil, e => by simp at e
  | _, _, 0, _, .cons h _, e => ⟨_, rfl, by simp at e; rw [← e]; exact h⟩
  | _, _, i + 1, v, .cons _ t, e => by
    obtain ⟨d, h1, h2⟩ := RDs.get' (i := i) (d := v) t (by simpa using e)
    exact ⟨d, by simpa using h1, h2⟩
theorem RDs.append {K : PySem.W.Frag} {H : Hp} {ρ : List Addr} : ∀ {vs ws : List V} {ds es : List D}, RDs K H ρ vs ds → RDs K H ρ ws es → RDs K H ρ (vs ++ ws) (ds ++ es)
  | _, _, _, _, .nil, s => s
  | _, _, _, _, .cons h t, s => .cons h (RDs.append t s)
theorem RDs.drop {K : PySem.W.Frag} {H : Hp} {ρ : List Addr} : ∀ {vs : List V} {ds : List D} (n : Nat), RDs K H ρ vs ds → RDs K H ρ (vs.drop n) (ds.drop n)
  | _, _, 0, h => h
  | _, _, _ + 1, .nil => .nil
  | _, _, n + 1, .cons _ t => RDs.drop n t
theorem RDs.take {K : PySem.W.Frag} {H : Hp} {ρ : List Addr} : ∀ {vs : List V} {ds : List D} (n : Nat), RDs K H ρ vs ds → RDs K H ρ (vs.take n) (ds.take n)
  | _, _, 0, _ => .nil
  | _, _, _ + 1, .nil => .nil
  | _, _, n + 1, .cons h t => .cons h (RDs.take n t)
theorem RDs.set {K : PySem.W.Frag} {H : Hp} {ρ : List Addr} {v : V} {d : D} (h : RD K H ρ v d) : ∀ {vs : List V} {ds : List D} (n : Nat), RDs K H ρ vs ds → RDs K H ρ (vs.set n v) (ds.set n d)
  | _, _, _, .nil => .nil
  | _, _, 0, .cons _ t => .cons h t
  | _, _, n + 1, .cons q t => .cons q (RDs.set h n t)
theorem RDs.eraseIdx {K : PySem.W.Frag} {H : Hp} {ρ : List Addr} : ∀ {vs : List V} {ds : List D} (n : Nat), RDs K H ρ vs ds → RDs K H ρ (vs.eraseIdx n) (ds.eraseIdx n)
  | _, _, _, .nil => .nil
  | _, _, 0, .cons _ t => t
  | _, _, n + 1, .cons q t => .cons q (RDs.eraseIdx n t)
theorem RDs.reverse {K : PySem.W.Frag} {H : Hp} {ρ : List Addr} : ∀ {vs : List V} {ds : List D}, RDs K H ρ vs ds → RDs K H ρ vs.reverse ds.reverse
  | _, _, .nil => .nil
  | _, _, .cons h t => by
    rw [List.reverse_cons, List.reverse_cons]
    exact RDs.append (RDs.reverse t) (.cons h .nil)
theorem RDs.replicate {K : PySem.W.Frag} {H : Hp} {ρ : List Addr} {vs : List V} {ds : List D} (h : RDs K H ρ vs ds) : ∀ n : Nat, RDs K H ρ (List.replicate n vs).flatten (List.replicate n ds).flatten
  | 0 => .nil
  | n + 1 => by
    rw [List.replicate_succ, List.replicate_succ, List.flatten_cons, List.flatten_cons]
    exact RDs.append h (RDs.replicate h n)
theorem RDs.ints {K : PySem.W.Frag} {H : Hp} {ρ : List Addr} : ∀ {vs : List V} {ns : List Int}, RDs K H ρ vs (ns.map D.int) → vs = ns.map V.int
  | _, [], .nil => rfl
  | _, n :: ns, .cons (.int _) t => by rw [RDs.ints t]; rfl
theorem RDs.strs {K : PySem.W.Frag} {H : Hp} {ρ : List Addr} : ∀ {vs : List V} {ns : List Str}, RDs K H ρ vs (ns.map D.str) → vs = ns.map V.str
  | _, [], .nil => rfl
  | _, n :: ns, .cons (.str _) t => by rw [RDs.strs t]; rfl
theorem RDs.bls {K : PySem.W.Frag} {H : Hp} {ρ : List Addr} : ∀ {vs : List V} {ns : List Bool}, RDs K H ρ vs (ns.map D.bl) → vs = ns.map V.bl
  | _, [], .nil => rfl
  | _, n :: ns, .cons (.bl _) t => by rw [RDs.bls t]; rfl
theorem RDs.ofInts {K : PySem.W.Frag} {H : Hp} {ρ : List Addr} : ∀ (ns : List Int), RDs K H ρ (ns.map V.int) (ns.map D.int)
  | [] => .nil
  | n :: ns => .cons (.int n) (RDs.ofInts ns)
theorem RDs.ofStrs {K : PySem.W.Frag} {H : Hp} {ρ : List Addr} : ∀ (ns : List Str), RDs K H ρ (ns.map V.str) (ns.map D.str)
  | [] => .nil
  | n :: ns => .cons (.str n) (RDs.ofStrs ns)

/-- an object of the abstract heap is laid new, and comes into the store -/
theorem Ext.new {K : PySem.W.Frag} {cls : Nat → Addr} {H : Hp} {ρ : List Addr} {S : Store} {p : Addr} {o : HO} (R : RS K cls H ρ S) (hp : H p = none) : Ext H ρ (upd H p o) (ρ ++ [p]) :=
  ⟨⟨[p], rfl, fun b hb => by rw [List.mem_singleton.mp hb]; exact hp⟩, fun b u _ h => by rw [upd_ne (ne_of_none h hp)]; exact h, fun b u h => ⟨u, by rw [upd_ne (ne_of_none h hp)]; exact h⟩,
    fun b u h => by rw [upd_ne (ne_of_none h hp)]; exact h, fun b u v h => by rw [upd_ne (ne_of_none h hp)]; exact h⟩
/-- one that doesn't come into the store (a tuple, a thing on the way) -/
theorem Ext.side {H : Hp} {ρ : List Addr} {p : Addr} {o : HO} (hp : H p = none) : Ext H ρ (upd H p o) ρ :=
  ⟨⟨[], by simp, by simp⟩, fun b u _ h => by rw [upd_ne (ne_of_none h hp)]; exact h, fun b u h => ⟨u, by rw [upd_ne (ne_of_none h hp)]; exact h⟩,
    fun b u h => by rw [upd_ne (ne_of_none h hp)]; exact h, fun b u v h => by rw [upd_ne (ne_of_none h hp)]; exact h⟩
theorem RO.there {K : PySem.W.Frag} {cls : Nat → Addr} {H : Hp} {ρ : List Addr} {a : Addr} {o : O} (h : RO K cls H ρ a o) : ∃ u, H a = some u ∧ (∀ xs, u ≠ .tup xs) := by
  cases o with
  | lst l => obtain ⟨vs, e, _⟩ := h; exact ⟨_, e, fun _ z => nomatch z⟩
  | dic l => obtain ⟨vs, e, _⟩ := h; exact ⟨_, e, fun _ z => nomatch z⟩
  | ins c l => obtain ⟨dx, vs, e, _⟩ := h; exact ⟨_, e, fun _ z => nomatch z⟩
theorem RS.there {K : PySem.W.Frag} {cls : Nat → Addr} {H : Hp} {ρ : List Addr} {S : Store} (R : RS K cls H ρ S) {a : Addr} (h : a ∈ ρ) : ∃ u, H a = some u ∧ (∀ xs, u ≠ .tup xs) := by
  obtain ⟨r, hr⟩ := List.mem_iff_getElem?.mp h
  have hl : r < S.length := by rw [← R.len]; exact (List.getElem?_eq_some_iff.mp hr).1
  obtain ⟨a', e, q⟩ := R.ob r S[r] (by simp [hl])
  rw [hr] at e; cases e
  exact q.there
theorem RS.fresh {K : PySem.W.Frag} {cls : Nat → Addr} {H : Hp} {ρ : List Addr} {S : Store} (R : RS K cls H ρ S) {p : Addr} (hp : H p = none) : p ∉ ρ := fun h => by
  obtain ⟨u, e, _⟩ := R.there h
  rw [hp] at e; cases e
/-- what an object of the store is, in a heap that has it unchanged -/
theorem RO.ext {K : PySem.W.Frag} {cls : Nat → Addr} {H H' : Hp} {ρ ρ' : List Addr} {a : Addr} {o : O} (e : Ext H ρ H' ρ') (k : ∀ u, H a = some u → H' a = some u) (h : RO K cls H ρ a o) : RO K cls H' ρ' a o := by
  cases o with
  | lst l => obtain ⟨vs, q, r⟩ := h; exact ⟨vs, k _ q, RDs.ext e r⟩
  | dic l => obtain ⟨vs, q, r⟩ := h; exact ⟨vs, k _ q, RK.ext e r⟩
  | ins c l => obtain ⟨dx, vs, q, r⟩ := h; exact ⟨dx, vs, k _ q, RF.ext e r⟩
theorem RS.side {K : PySem.W.Frag} {cls : Nat → Addr} {H : Hp} {ρ : List Addr} {S : Store} {p : Addr} {o : HO} (R : RS K cls H ρ S) (hp : H p = none) : RS K cls (upd H p o) ρ S :=
  ⟨R.len, R.nd, fun r u hr => by
    obtain ⟨a, e, q⟩ := R.ob r u hr
    exact ⟨a, e, q.ext (Ext.side hp) fun u h => by rw [upd_ne (ne_of_none h hp)]; exact h⟩⟩
theorem RS.new {K : PySem.W.Frag} {cls : Nat → Addr} {H : Hp} {ρ : List Addr} {S : Store} {p : Addr} {o : HO} {u : O} (R : RS K cls H ρ S) (hp : H p = none) (h : RO K cls (upd H p o) (ρ ++ [p]) p u) : RS K cls (upd H p o) (ρ ++ [p]) (S ++ [u]) :=
  ⟨by simp [R.len], by rw [List.nodup_append]; exact ⟨R.nd, by simp, fun a ha b hb z => by rw [List.mem_singleton.mp hb] at z; exact R.fresh hp (z ▸ ha)⟩, fun r v hr => by
    by_cases hl : r < S.length
    · rw [List.getElem?_append_left hl] at hr
      obtain ⟨a, e, q⟩ := R.ob r v hr
      exact ⟨a, by rw [List.getElem?_append_left (by rw [R.len]; exact hl)]; exact e, q.ext (Ext.new R hp) fun u h => by rw [upd_ne (ne_of_none h hp)]; exact h⟩
    · rw [List.getElem?_append_right (by omega)] at hr
      have h0 : r - S.length = 0 := by
        have := (List.getElem?_eq_some_iff.mp hr).1
        simp at this; omega
      rw [h0] at hr
      simp at hr
      subst hr
      exact ⟨p, by rw [List.getElem?_append_right (by rw [R.len]; omega), R.len, h0]; rfl, h⟩⟩
theorem RS.new' {K : PySem.W.Frag} {cls : Nat → Addr} {H : Hp} {ρ : List Addr} {S : Store} (R : RS K cls H ρ S) {p : Addr} : (ρ ++ [p])[S.length]? = some p := by
  rw [← R.len, List.getElem?_append_right (Nat.le_refl _)]; simp
/-- an object of the store is changed -/
theorem Ext.put {K : PySem.W.Frag} {cls : Nat → Addr} {H : Hp} {ρ : List Addr} {S : Store} {a : Addr} {o u : HO} (R : RS K cls H ρ S) (ha : a ∈ ρ) (hf : H a = some u) (nf : ∀ ob v, u ≠ .frz ob v) : Ext H ρ (upd H a o) ρ := by
  obtain ⟨u', hu, nt⟩ := R.there ha
  rw [hf] at hu; cases hu
  refine ⟨⟨[], by simp, by simp⟩, fun b v hb h => by rw [upd_ne (fun z : b = a => by subst z; exact hb ha)]; exact h, fun b v h => ?_, fun b v h => ?_, fun b v w h => ?_⟩
  · by_cases z : b = a
    · subst z; exact ⟨o, upd_same⟩
    · exact ⟨v, by rw [upd_ne z]; exact h⟩
  · rw [upd_ne (fun z => by subst z; rw [hf] at h; cases h; exact nt _ rfl)]; exact h
  · rw [upd_ne (fun z => by subst z; rw [hf] at h; cases h; exact nf _ _ rfl)]; exact h
theorem RS.put {K : PySem.W.Frag} {cls : Nat → Addr} {H : Hp} {ρ : List Addr} {S : Store} {r : Nat} {a : Addr} {o u : HO} {v : O} (R : RS K cls H ρ S) (ha : ρ[r]? = some a) (hf : H a = some u) (nf : ∀ ob w, u ≠ .frz ob w) (h : RO K cls (upd H a o) ρ a v) : RS K cls (upd H a o) ρ (S.set r v) :=
  ⟨by simp [R.len], R.nd, fun q w hq => by
    by_cases z : q = r
    · subst z
      have hl : q < S.length := by rw [← R.len]; exact (List.getElem?_eq_some_iff.mp ha).1
      rw [List.getElem?_set_self hl] at hq; cases hq
      exact ⟨a, ha, h⟩
    · rw [List.getElem?_set_ne (Ne.symm z)] at hq
      obtain ⟨b, e, x⟩ := R.ob q w hq
      refine ⟨b, e, x.ext (Ext.put R (List.mem_of_getElem? ha) hf nf) fun u' hb => ?_⟩
      rw [upd_ne]
      · exact hb
      · rintro rfl
        exact z ((List.getElem?_inj (List.getElem?_eq_some_iff.mp e).1 R.nd).mp (e.trans ha.symm))⟩

/-! ### what a function of the layer asks -/
def RX (K : PySem.W.Frag) (cls : Nat → Addr) (H : Hp) (ρ : List Addr) (x : Ex) (cv : Value) (od : Option Addr) : Prop :=
  cv = .ref (cls x.c) ∧ match x.fs with
  | none => od = none
  | some fs => ∃ d vfs, od = some d ∧ H d = some (.xd vfs) ∧ d ∉ ρ ∧ RF K H ρ vfs fs
/-- r is what came; P what is wanted of it -/
def After {α : Type} (K : PySem.W.Frag) (cls : Nat → Addr) (W : WX) (σ : St) (H : Hp) (ρ : List Addr) (r : Res α) (P : α → Hp → List Addr → Store → Prop) : Prop :=
  match r with
  | .ok a S' => ∀ H' ρ', Ext H ρ H' ρ' → RS K cls H' ρ' S' → P a H' ρ' S'
  | .err x S' => ∀ cv od H' ρ', Ext H ρ H' ρ' → RS K cls H' ρ' S' → RX K cls H' ρ' x cv od → W cv od σ H'
  | .bad => False
theorem After.bind {α β : Type} {K : PySem.W.Frag} {cls : Nat → Addr} {W : WX} {σ : St} {H : Hp} {ρ : List Addr} {r : Res α} {f : α → Store → Res β} {P : β → Hp → List Addr → Store → Prop}
    (h : After K cls W σ H ρ (r.bind f) P) : After K cls W σ H ρ r fun a H' ρ' S' => After K cls W σ H' ρ' (f a S') P := by
  cases r with
  | bad => exact h
  | err x S => exact h
  | ok a S =>
    intro H' ρ' e R
    have h' : After K cls W σ H ρ (f a S) P := h
    cases q : f a S with
    | bad => rw [q] at h'; exact h'
    | err x S2 => rw [q] at h'; exact fun cv od H2 ρ2 e2 => h' cv od H2 ρ2 (e.trans e2)
    | ok b S2 => rw [q] at h'; exact fun H2 ρ2 e2 => h' H2 ρ2 (e.trans e2)
theorem After.mono {α : Type} {K : PySem.W.Frag} {cls : Nat → Addr} {W : WX} {σ : St} {H : Hp} {ρ : List Addr} {r : Res α} {P P' : α → Hp → List Addr → Store → Prop}
    (h : After K cls W σ H ρ r P) (k : ∀ a H' ρ' S', Ext H ρ H' ρ' → RS K cls H' ρ' S' → P a H' ρ' S' → P' a H' ρ' S') : After K cls W σ H ρ r P' := by
  cases r with
  | bad => exact h
  | err x S => exact h
  | ok a S => exact fun H' ρ' e R => k a H' ρ' S e R (h H' ρ' e R)
theorem After.from {α : Type} {K : PySem.W.Frag} {cls : Nat → Addr} {W : WX} {σ : St} {H H1 : Hp} {ρ ρ1 : List Addr} {r : Res α} {P : α → Hp → List Addr → Store → Prop}
    (e : Ext H ρ H1 ρ1) (h : After K cls W σ H ρ r P) : After K cls W σ H1 ρ1 r P := by
  cases r with
  | bad => exact h
  | err x S => exact fun cv od H2 ρ2 e2 => h cv od H2 ρ2 (e.trans e2)
  | ok a S => exact fun H2 ρ2 e2 => h H2 ρ2 (e.trans e2)
/-- the readings of the layer's functions -/
def Rel (K : PySem.W.Frag) (cls : Nat → Addr) (σ : St) (H : Hp) (η : DEnv) (S : Store) (ρ : List Addr) : Prop := RS K cls H ρ S ∧ RE K H ρ σ η
def upE (K : PySem.W.Frag) (cls : Nat → Addr) (W : WX) (f : DE) : TE := fun σ H Q => ∃ η S ρ, Rel K cls σ H η S ρ ∧ After K cls W σ H ρ (f η S) fun d H' ρ' _ => ∀ v, RD K H' ρ' v d → Q v H'
def upT (K : PySem.W.Frag) (cls : Nat → Addr) (W : WX) (f : DT) : TT := fun σ H Q => ∃ η S ρ, Rel K cls σ H η S ρ ∧ After K cls W σ H ρ (f η S) fun b H' ρ' _ => Q b H'
def upA (K : PySem.W.Frag) (cls : Nat → Addr) (W : WX) (f : DA) : TA := fun σ H Q => ∃ η S ρ, Rel K cls σ H η S ρ ∧ After K cls W σ H ρ (f η S) fun ds H' ρ' _ => ∀ vs, RDs K H' ρ' vs ds → Q vs H'
def AfterS (K : PySem.W.Frag) (cls : Nat → Addr) (W : WX) (E : Ends) (H : Hp) (ρ : List Addr) (o : Out) : Prop :=
  match o with
  | .nx η S => ∀ σ' H' ρ', Ext H ρ H' ρ' → RS K cls H' ρ' S → RE K H' ρ' σ' η → E.nx σ' H'
  | .bk η S => ∀ σ' H' ρ', Ext H ρ H' ρ' → RS K cls H' ρ' S → RE K H' ρ' σ' η → E.bk σ' H'
  | .ct η S => ∀ σ' H' ρ', Ext H ρ H' ρ' → RS K cls H' ρ' S → RE K H' ρ' σ' η → E.ct σ' H'
  | .rt d S => ∀ v H' ρ', Ext H ρ H' ρ' → RS K cls H' ρ' S → RD K H' ρ' v d → E.rt v H'
  | .err x η S => ∀ cv od σ' H' ρ', Ext H ρ H' ρ' → RS K cls H' ρ' S → RE K H' ρ' σ' η → RX K cls H' ρ' x cv od → W cv od σ' H'
  | .bad => False
theorem AfterS.from {K : PySem.W.Frag} {cls : Nat → Addr} {W : WX} {E : Ends} {H H1 : Hp} {ρ ρ1 : List Addr} {o : Out} (e : Ext H ρ H1 ρ1) (h : AfterS K cls W E H ρ o) : AfterS K cls W E H1 ρ1 o := by
  cases o with
  | nx η S => exact fun σ' H2 ρ2 e2 => h σ' H2 ρ2 (e.trans e2)
  | bk η S => exact fun σ' H2 ρ2 e2 => h σ' H2 ρ2 (e.trans e2)
  | ct η S => exact fun σ' H2 ρ2 e2 => h σ' H2 ρ2 (e.trans e2)
  | rt d S => exact fun v H2 ρ2 e2 => h v H2 ρ2 (e.trans e2)
  | err x η S => exact fun cv od σ' H2 ρ2 e2 => h cv od σ' H2 ρ2 (e.trans e2)
  | bad => exact h
def upS (K : PySem.W.Frag) (cls : Nat → Addr) (W : WX) (f : DS) : TS := fun E σ H => ∃ η S ρ, Rel K cls σ H η S ρ ∧ AfterS K cls W E H ρ (f η S)
def upG (K : PySem.W.Frag) (cls : Nat → Addr) (W : WX) (g : DG) : TG := fun v σ H Q => ∃ d η S ρ, Rel K cls σ H η S ρ ∧ RD K H ρ v d ∧ After K cls W σ H ρ (g d η S) fun η' H' ρ' _ => ∀ σ', RE K H' ρ' σ' η' → Q σ' H'
/-- a def's promise: it does what f does -/
def spD (K : PySem.W.Frag) (cls : Nat → Addr) (n : Nat) (f : List D → M D) : Sp := fun vs H Q E => vs.length = n ∧ ∃ ds S ρ, RS K cls H ρ S ∧ RDs K H ρ vs ds ∧
  After K cls (fun cv od _ H' => E cv od H') [] H ρ (f ds S) fun d H' ρ' _ => ∀ v, RD K H' ρ' v d → Q v H'

theorem PE.weak {X : Cx} {e : Expr} {t t' : TE} (h : PE X e t) (k : ∀ σ H Q, t' σ H Q → t σ H Q) : PE X e t' := ⟨fun pins s σ H Q I q => h.run pins s σ H Q I (k _ _ _ q)⟩
theorem PT.weak {X : Cx} {e : Expr} {t t' : TT} (h : PT X e t) (k : ∀ σ H Q, t' σ H Q → t σ H Q) : PT X e t' := ⟨fun pins s σ H Q I q => h.run pins s σ H Q I (k _ _ _ q)⟩
theorem PW.weak {X : Cx} {e : Expr} {t t' : TT} (h : PW X e t) (k : ∀ σ H Q, t' σ H Q → t σ H Q) : PW X e t' := ⟨fun wh pins s σ H Q I q => h.run wh pins s σ H Q I (k _ _ _ q)⟩
theorem PA.weak {X : Cx} {e : List Expr} {t t' : TA} (h : PA X e t) (k : ∀ σ H Q, t' σ H Q → t σ H Q) : PA X e t' := ⟨fun pos pins s σ H Q I q => h.run pos pins s σ H Q I (k _ _ _ q)⟩
theorem PS.weak {X : Cx} {e : Stmt} {t t' : TS} (h : PS X e t) (k : ∀ D σ H, t' D σ H → t D σ H) : PS X e t' := ⟨fun pins s σ H D I q => h.run pins s σ H D I (k _ _ _ q)⟩
theorem PSs.weak {X : Cx} {e : List Stmt} {t t' : TS} (h : PSs X e t) (k : ∀ D σ H, t' D σ H → t D σ H) : PSs X e t' := ⟨fun pins s σ H D I q => h.run pins s σ H D I (k _ _ _ q)⟩
end DL

set_option Elab.async false
set_option linter.all false
set_option maxRecDepth 100000
set_option maxHeartbeats 1000000
/-! The layer's expressions. -/
namespace DL
open PySem PySem.Spec L2
open PyProof.Rows hiding St

/-- operations on data that do not raise: a value and the store behind, or none where nothing is said -/
abbrev P1 := D → Store → Option (D × Store)
abbrev P2 := D → D → Store → Option (D × Store)
abbrev PL := List D → Store → Option (D × Store)
def Opt (o : Option (D × Store)) : Res D := match o with | some (d, S) => .ok d S | none => .bad

def eVar (i : Nat) : DE := fun η S => match η[i]? with | some (some d) => .ok d S | _ => .bad
def eC (d : D) : DE := fun _ S => .ok d S
def eUn (g : P1) (fa : DE) : DE := fun η S => (fa η S).bind fun x S1 => Opt (g x S1)
def eBin (g : P2) (fa fb : DE) : DE := fun η S => (fa η S).bind fun x S1 => (fb η S1).bind fun y S2 => Opt (g x y S2)
def aNil : DA := fun _ S => .ok [] S
def aCons (fa : DE) (fr : DA) : DA := fun η S => (fa η S).bind fun x S1 => (fr η S1).bind fun xs S2 => .ok (x :: xs) S2
def eTup (fa : DA) : DE := fun η S => (fa η S).bind fun xs S1 => if xs.length ≤ sizeLine then .ok (.tup xs) S1 else .bad
def eLst (fa : DA) : DE := fun η S => (fa η S).bind fun xs S1 => if xs.length ≤ sizeLine then .ok (.ref S1.length) (S1 ++ [.lst xs]) else .bad
def eDic0 : DE := fun _ S => .ok (.ref S.length) (S ++ [.dic []])
def eCall (f : List D → M D) (fa : DA) : DE := fun η S => (fa η S).bind fun xs S1 => f xs S1
def eCB (g : PL) (fa : DA) : DE := fun η S => (fa η S).bind fun xs S1 => Opt (g xs S1)
def eAnd (fa fb : DE) : DE := fun η S => (fa η S).bind fun x S1 => match x with | .bl true => fb η S1 | .bl false => .ok (.bl false) S1 | _ => .bad
def eOr (fa fb : DE) : DE := fun η S => (fa η S).bind fun x S1 => match x with | .bl true => .ok (.bl true) S1 | .bl false => fb η S1 | _ => .bad
def eNot (fa : DE) : DE := fun η S => (fa η S).bind fun x S1 => match x with | .bl b => .ok (.bl (!b)) S1 | _ => .bad
def eIf (c : DT) (fa fb : DE) : DE := fun η S => (c η S).bind fun b S1 => if b = true then fa η S1 else fb η S1
def eChain (g g' : P2) (fa fb fc : DE) : DE := fun η S => (fa η S).bind fun x S1 => (fb η S1).bind fun y S2 => (Opt (g x y S2)).bind fun z S3 => match z with
  | .bl true => (fc η S3).bind fun w S4 => Opt (g' y w S4) | .bl false => .ok (.bl false) S3 | _ => .bad
def tVal (fa : DE) : DT := fun η S => (fa η S).bind fun x S1 => match x with | .bl b => .ok b S1 | _ => .bad
def tAnd' (c e : DT) : DT := fun η S => (c η S).bind fun b S1 => if b = true then e η S1 else .ok false S1
def tOr' (c e : DT) : DT := fun η S => (c η S).bind fun b S1 => if b = true then .ok true S1 else e η S1
def tNot' (c : DT) : DT := fun η S => (c η S).bind fun b S1 => .ok (!b) S1

section
variable {K : PySem.W.Frag} {cls : Nat → Addr} {W : WX} {X : Cx}

def upO1 (K : PySem.W.Frag) (cls : Nat → Addr) (g : P1) : V → Hp → VK → Prop := fun x H Q => ∃ dx S ρ d S', RS K cls H ρ S ∧ RD K H ρ x dx ∧ g dx S = some (d, S') ∧
  ∀ H' ρ' v, Ext H ρ H' ρ' → RS K cls H' ρ' S' → RD K H' ρ' v d → Q v H'
def upO2 (K : PySem.W.Frag) (cls : Nat → Addr) (g : P2) : R2 := fun x y H Q => ∃ dx dy S ρ d S', RS K cls H ρ S ∧ RD K H ρ x dx ∧ RD K H ρ y dy ∧ g dx dy S = some (d, S') ∧
  ∀ H' ρ' v, Ext H ρ H' ρ' → RS K cls H' ρ' S' → RD K H' ρ' v d → Q v H'
def upOL (K : PySem.W.Frag) (cls : Nat → Addr) (g : PL) : List V → Hp → VK → Prop := fun xs H Q => ∃ ds S ρ d S', RS K cls H ρ S ∧ RDs K H ρ xs ds ∧ g ds S = some (d, S') ∧
  ∀ H' ρ' v, Ext H ρ H' ρ' → RS K cls H' ρ' S' → RD K H' ρ' v d → Q v H'

theorem after_opt {σ : L2.St} {H : Hp} {ρ : List Addr} {o : Option (D × Store)} {Q : VK} (h : After K cls W σ H ρ (Opt o) fun d H' ρ' _ => ∀ v, RD K H' ρ' v d → Q v H') :
    ∃ d S', o = some (d, S') ∧ ∀ H' ρ' v, Ext H ρ H' ρ' → RS K cls H' ρ' S' → RD K H' ρ' v d → Q v H' := by
  cases o with
  | none => exact h.elim
  | some p => exact ⟨p.1, p.2, rfl, fun H' ρ' v e R r => h H' ρ' e R v r⟩

theorem RE.get {H : Hp} {ρ : List Addr} : ∀ {σ : L2.St} {η : DEnv} {i : Nat} {d : D}, RE K H ρ σ η → η[i]? = some (some d) → ∃ v, σ[i]? = some (some v) ∧ RD K H ρ v d
  | _, _, _, _, .nil, e => by simp at e
  | _, _, 0, d, .cons (a := v) r _, e => by
    simp at e; subst e
    cases v with
    | none => exact r.elim
    | some v => exact ⟨v, rfl, r⟩
  | _, _, i + 1, d, .cons _ t, e => by
    obtain ⟨v, h1, h2⟩ := RE.get (i := i) (d := d) t (by simpa using e)
    exact ⟨v, by simpa using h1, h2⟩
theorem RE.set {H : Hp} {ρ : List Addr} {v : V} {d : D} (h : RD K H ρ v d) : ∀ {σ : L2.St} {η : DEnv} (i : Nat), RE K H ρ σ η → RE K H ρ (σ.set i (some v)) (η.set i (some d))
  | _, _, _, .nil => .nil
  | _, _, 0, .cons _ t => .cons h t
  | _, _, i + 1, .cons q t => .cons q (RE.set h i t)

theorem de_var {i : Nat} {e : Expr} (h : PE X e (tVar i)) : PE X e (upE X.K cls W (eVar i)) := PE.weak h fun σ H Q q => by
  obtain ⟨η, S, ρ, ⟨R, rη⟩, a⟩ := q
  unfold eVar at a
  cases q : η[i]? with
  | none => rw [q] at a; exact a.elim
  | some o =>
    cases o with
    | none => rw [q] at a; exact a.elim
    | some d =>
      rw [q] at a
      obtain ⟨v, h1, h2⟩ := RE.get rη q
      exact ⟨v, h1, a H ρ (Ext.refl _ _) R v h2⟩
theorem de_c {e : Expr} {v : V} {d : D} (h : PE X e (tC v)) (r : ∀ H ρ, RD X.K H ρ v d) : PE X e (upE X.K cls W (eC d)) := PE.weak h fun σ H Q q => by
  obtain ⟨η, S, ρ, ⟨R, rη⟩, a⟩ := q
  exact a H ρ (Ext.refl _ _) R v (r H ρ)
theorem de_int {i j pos} : PE X (.Constant (.int i) j pos) (upE X.K cls W (eC (.int i))) := de_c pe_int fun _ _ => .int i
theorem de_bl {i j pos} : PE X (.Constant (.bool i) j pos) (upE X.K cls W (eC (.bl i))) := de_c pe_bl fun _ _ => .bl i
theorem de_non {j pos} : PE X (.Constant .none j pos) (upE X.K cls W (eC .non)) := de_c pe_non fun _ _ => .non
theorem de_str {i j pos} : PE X (.Constant (.str i) j pos) (upE X.K cls W (eC (.str i))) := de_c pe_str fun _ _ => .str i

/-- what an expression's reading gives, for the next -/
theorem upE_go {fa : DE} {α : Type} {f : D → Store → Res α} {η : DEnv} {S : Store} {ρ : List Addr} {σ : L2.St} {H : Hp} {P : α → Hp → List Addr → Store → Prop} {Q : VK}
    (R : Rel K cls σ H η S ρ) (a : After K cls W σ H ρ ((fa η S).bind f) P)
    (k : ∀ d v H1 ρ1 S1, Ext H ρ H1 ρ1 → Rel K cls σ H1 η S1 ρ1 → RD K H1 ρ1 v d → After K cls W σ H1 ρ1 (f d S1) P → Q v H1) : upE K cls W fa σ H Q :=
  ⟨η, S, ρ, R, (After.bind a).mono fun d H1 ρ1 S1 e R1 q v r => k d v H1 ρ1 S1 e ⟨R1, RE.ext e R.2⟩ r q⟩
theorem upT_go {fa : DT} {α : Type} {f : Bool → Store → Res α} {η : DEnv} {S : Store} {ρ : List Addr} {σ : L2.St} {H : Hp} {P : α → Hp → List Addr → Store → Prop} {Q : Bool → Hp → Prop}
    (R : Rel K cls σ H η S ρ) (a : After K cls W σ H ρ ((fa η S).bind f) P)
    (k : ∀ b H1 ρ1 S1, Ext H ρ H1 ρ1 → Rel K cls σ H1 η S1 ρ1 → After K cls W σ H1 ρ1 (f b S1) P → Q b H1) : upT K cls W fa σ H Q :=
  ⟨η, S, ρ, R, (After.bind a).mono fun d H1 ρ1 S1 e R1 q => k d H1 ρ1 S1 e ⟨R1, RE.ext e R.2⟩ q⟩
theorem upA_go {fa : DA} {α : Type} {f : List D → Store → Res α} {η : DEnv} {S : Store} {ρ : List Addr} {σ : L2.St} {H : Hp} {P : α → Hp → List Addr → Store → Prop} {Q : List V → Hp → Prop}
    (R : Rel K cls σ H η S ρ) (a : After K cls W σ H ρ ((fa η S).bind f) P)
    (k : ∀ d v H1 ρ1 S1, Ext H ρ H1 ρ1 → Rel K cls σ H1 η S1 ρ1 → RDs K H1 ρ1 v d → After K cls W σ H1 ρ1 (f d S1) P → Q v H1) : upA K cls W fa σ H Q :=
  ⟨η, S, ρ, R, (After.bind a).mono fun d H1 ρ1 S1 e R1 q v r => k d v H1 ρ1 S1 e ⟨R1, RE.ext e R.2⟩ r q⟩

variable {a b c : Expr} {fa fb fc : DE} {pos : Pos}
theorem tOp_up {g : P2} {σ : L2.St} {H : Hp} {Q : VK} (h : upE K cls W (eBin g fa fb) σ H Q) : tOp (upO2 K cls g) (upE K cls W fa) (upE K cls W fb) σ H Q := by
  obtain ⟨η, S, ρ, R, a⟩ := h
  refine upE_go R a fun x v H1 ρ1 S1 e1 R1 r1 a1 => ?_
  refine upE_go R1 a1 fun y u H2 ρ2 S2 e2 R2 r2 a2 => ?_
  obtain ⟨d, S', hg, q⟩ := after_opt a2
  exact ⟨x, y, S2, ρ2, d, S', R2.1, RD.ext e2 r1, r2, hg, q⟩
theorem de_bin {op : Operator} {g : P2} (ho : OpR X (binaryOp op) (upO2 X.K cls g)) (ha : PE X a (upE X.K cls W fa)) (hb : PE X b (upE X.K cls W fb)) : PE X (.BinOp a op b pos) (upE X.K cls W (eBin g fa fb)) :=
  PE.weak (pe_op ho ha hb) fun _ _ _ h => tOp_up h
theorem de_cmp {op : CmpOp} {g : P2} (ho : OpR X (compareOp op) (upO2 X.K cls g)) (ha : PE X a (upE X.K cls W fa)) (hb : PE X b (upE X.K cls W fb)) (hm : behindInMarks op b = false) : PE X (.Compare a [op] [b] pos) (upE X.K cls W (eBin g fa fb)) :=
  PE.weak (pe_cmpR ho ha hb hm) fun _ _ _ h => tOp_up h
theorem tVal_up {f : DE} {σ : L2.St} {H : Hp} {Q : Bool → Hp → Prop} (h : upT K cls W (tVal f) σ H Q) : upE K cls W f σ H fun x H' => ∃ k, x = .bl k ∧ Q k H' := by
  obtain ⟨η, S, ρ, R, a⟩ := h
  refine upE_go R a fun x v H1 ρ1 S1 e1 R1 r1 a1 => ?_
  cases r1 with
  | bl k => exact ⟨k, rfl, a1 H1 ρ1 (Ext.refl _ _) R1.1⟩
  | non => exact a1.elim
  | int i => exact a1.elim
  | str i => exact a1.elim
  | tup _ _ => exact a1.elim
  | ref _ => exact a1.elim
  | fro _ _ => exact a1.elim
theorem tOp_mono {r : R2} {ta tb : TE} : True := trivial
theorem dt_cmp {op : CmpOp} {g : P2} (ho : OpR X (compareOp op) (upO2 X.K cls g)) (ha : PE X a (upE X.K cls W fa)) (hb : PE X b (upE X.K cls W fb)) (hm : behindInMarks op b = false) : PT X (.Compare a [op] [b] pos) (upT X.K cls W (tVal (eBin g fa fb))) :=
  PT.weak (pt_cmpR ho ha hb hm) fun _ _ _ h => tOp_up (tVal_up h)
theorem dt_val {e : Expr} {f : DE} (h : PE X e (upE X.K cls W f)) (he : ∀ whole, isTrue e X.env whole = (do let v ← whole; standAt e.pos; holding [v] (truthy v)) := by intro _; rfl) : PT X e (upT X.K cls W (tVal f)) :=
  PT.weak (pt_val h he) fun _ _ _ h => tVal_up h
theorem tChain_up {g g' : P2} {σ : L2.St} {H : Hp} {Q : VK} (h : upE K cls W (eChain g g' fa fb fc) σ H Q) : tChain (upO2 K cls g) (upO2 K cls g') (upE K cls W fa) (upE K cls W fb) (upE K cls W fc) σ H Q := by
  obtain ⟨η, S, ρ, R, a⟩ := h
  refine upE_go R a fun x v H1 ρ1 S1 e1 R1 r1 a1 => ?_
  refine upE_go R1 a1 fun y u H2 ρ2 S2 e2 R2 r2 a2 => ?_
  cases hg : g x y S2 with
  | none => rw [hg] at a2; exact a2.elim
  | some p =>
    obtain ⟨z, S3⟩ := p
    rw [hg] at a2
    refine ⟨x, y, S2, ρ2, z, S3, R2.1, RD.ext e2 r1, r2, hg, fun H3 ρ3 v3 e3 R3 r3 => ?_⟩
    have R3' : Rel K cls σ H3 η S3 ρ3 := ⟨R3, RE.ext e3 R2.2⟩
    have a3 := After.from e3 a2
    cases r3 with
    | bl k =>
      refine ⟨k, rfl, ?_⟩
      cases k with
      | false => exact iteF (a3 H3 ρ3 (Ext.refl _ _) R3 _ (.bl false))
      | true =>
        refine iteT ?_
        refine upE_go R3' a3 fun w' u' H4 ρ4 S4 e4 R4 r4 a4 => ?_
        obtain ⟨d, S', hg', q⟩ := after_opt a4
        exact ⟨y, w', S4, ρ4, d, S', R4.1, RD.ext (e3.trans e4) r2, r4, hg', q⟩
    | non => exact a3.elim
    | int i => exact a3.elim
    | str i => exact a3.elim
    | tup _ _ => exact a3.elim
    | ref _ => exact a3.elim
    | fro _ _ => exact a3.elim
theorem de_chain {op op' : CmpOp} {g g' : P2} (ho : OpR X (compareOp op) (upO2 X.K cls g)) (ho' : OpR X (compareOp op') (upO2 X.K cls g')) (ha : PE X a (upE X.K cls W fa)) (hb : PE X b (upE X.K cls W fb)) (hc : PE X c (upE X.K cls W fc))
    (hm : lastMarks [op, op'] [b, c] = false := by with_unfolding_all rfl) : PE X (.Compare a [op, op'] [b, c] pos) (upE X.K cls W (eChain g g' fa fb fc)) :=
  PE.weak (pe_chain ho ho' ha hb hc hm) fun _ _ _ h => tChain_up h
theorem dt_chain {op op' : CmpOp} {g g' : P2} (ho : OpR X (compareOp op) (upO2 X.K cls g)) (ho' : OpR X (compareOp op') (upO2 X.K cls g')) (ha : PE X a (upE X.K cls W fa)) (hb : PE X b (upE X.K cls W fb)) (hc : PE X c (upE X.K cls W fc))
    (hm : lastMarks [op, op'] [b, c] = false := by with_unfolding_all rfl) : PT X (.Compare a [op, op'] [b, c] pos) (upT X.K cls W (tVal (eChain g g' fa fb fc))) :=
  PT.weak (pt_chain ho ho' ha hb hc hm) fun _ _ _ h => tChain_up (tVal_up h)
theorem de_un {op : UnaryOp} {g : P1} (ho : UnR X (unaryOp op) (upO1 X.K cls g)) (ha : PE X a (upE X.K cls W fa)) : PE X (.UnaryOp op a pos) (upE X.K cls W (eUn g fa)) :=
  PE.weak (pe_un ho ha) fun σ H Q h => by
    obtain ⟨η, S, ρ, R, a⟩ := h
    refine upE_go R a fun x v H1 ρ1 S1 e1 R1 r1 a1 => ?_
    obtain ⟨d, S', hg, q⟩ := after_opt a1
    exact ⟨x, S1, ρ1, d, S', R1.1, r1, hg, q⟩

/-! ### and, or, not, if -/
variable {rest : List Expr} {c1 c2 : DT}
theorem de_one {op} {f : DE} (h : PE X a (upE X.K cls W f)) : PE X (.BoolOp op [a] pos) (upE X.K cls W f) := pe_one h
theorem de_and (ha : PE X a (upE X.K cls W fa)) (hb : PE X (.BoolOp .And (b :: rest) pos) (upE X.K cls W fb)) : PE X (.BoolOp .And (a :: b :: rest) pos) (upE X.K cls W (eAnd fa fb)) :=
  PE.weak (pe_and ha hb) fun σ H Q h => by
    obtain ⟨η, S, ρ, R, a⟩ := h
    refine upE_go R a fun x v H1 ρ1 S1 e1 R1 r1 a1 => ?_
    cases r1 with
    | bl k =>
      refine ⟨k, rfl, ?_⟩
      cases k with
      | false => exact iteF (a1 H1 ρ1 (Ext.refl _ _) R1.1 _ (.bl false))
      | true => exact iteT ⟨η, S1, ρ1, R1, a1⟩
    | non => exact a1.elim
    | int i => exact a1.elim
    | str i => exact a1.elim
    | tup _ _ => exact a1.elim
    | ref _ => exact a1.elim
    | fro _ _ => exact a1.elim
theorem de_or (ha : PE X a (upE X.K cls W fa)) (hb : PE X (.BoolOp .Or (b :: rest) pos) (upE X.K cls W fb)) : PE X (.BoolOp .Or (a :: b :: rest) pos) (upE X.K cls W (eOr fa fb)) :=
  PE.weak (pe_or ha hb) fun σ H Q h => by
    obtain ⟨η, S, ρ, R, a⟩ := h
    refine upE_go R a fun x v H1 ρ1 S1 e1 R1 r1 a1 => ?_
    cases r1 with
    | bl k =>
      refine ⟨k, rfl, ?_⟩
      cases k with
      | true => exact iteT (a1 H1 ρ1 (Ext.refl _ _) R1.1 _ (.bl true))
      | false => exact iteF ⟨η, S1, ρ1, R1, a1⟩
    | non => exact a1.elim
    | int i => exact a1.elim
    | str i => exact a1.elim
    | tup _ _ => exact a1.elim
    | ref _ => exact a1.elim
    | fro _ _ => exact a1.elim
theorem de_not (ha : PE X a (upE X.K cls W fa)) : PE X (.UnaryOp .Not a pos) (upE X.K cls W (eNot fa)) :=
  PE.weak (pe_not ha) fun σ H Q h => by
    obtain ⟨η, S, ρ, R, a⟩ := h
    refine upE_go R a fun x v H1 ρ1 S1 e1 R1 r1 a1 => ?_
    cases r1 with
    | bl k => exact ⟨k, rfl, a1 H1 ρ1 (Ext.refl _ _) R1.1 _ (.bl _)⟩
    | non => exact a1.elim
    | int i => exact a1.elim
    | str i => exact a1.elim
    | tup _ _ => exact a1.elim
    | ref _ => exact a1.elim
    | fro _ _ => exact a1.elim
theorem de_if (hc : PT X c (upT X.K cls W c1)) (ha : PE X a (upE X.K cls W fa)) (hb : PE X b (upE X.K cls W fb)) : PE X (.IfExp c a b pos) (upE X.K cls W (eIf c1 fa fb)) :=
  PE.weak (pe_ifExp hc ha hb) fun σ H Q h => by
    obtain ⟨η, S, ρ, R, a⟩ := h
    refine upT_go R a fun k H1 ρ1 S1 e1 R1 a1 => ?_
    cases k with
    | true => exact iteT ⟨η, S1, ρ1, R1, a1⟩
    | false => exact iteF ⟨η, S1, ρ1, R1, a1⟩
theorem dw_and1 (ha : PT X a (upT X.K cls W c1)) : PW X (.BoolOp .And [a] pos) (upT X.K cls W c1) := pw_and1 ha
theorem dw_or1 (ha : PT X a (upT X.K cls W c1)) : PW X (.BoolOp .Or [a] pos) (upT X.K cls W c1) := pw_or1 ha
theorem dw_and (ha : PT X a (upT X.K cls W c1)) (hb : PW X (.BoolOp .And (b :: rest) pos) (upT X.K cls W c2)) : PW X (.BoolOp .And (a :: b :: rest) pos) (upT X.K cls W (tAnd' c1 c2)) :=
  PW.weak (pw_and ha hb) fun σ H Q h => by
    obtain ⟨η, S, ρ, R, a⟩ := h
    refine upT_go R a fun k H1 ρ1 S1 e1 R1 a1 => ?_
    cases k with
    | true => exact iteT ⟨η, S1, ρ1, R1, a1⟩
    | false => exact iteF (a1 H1 ρ1 (Ext.refl _ _) R1.1)
theorem dw_or (ha : PT X a (upT X.K cls W c1)) (hb : PW X (.BoolOp .Or (b :: rest) pos) (upT X.K cls W c2)) : PW X (.BoolOp .Or (a :: b :: rest) pos) (upT X.K cls W (tOr' c1 c2)) :=
  PW.weak (pw_or ha hb) fun σ H Q h => by
    obtain ⟨η, S, ρ, R, a⟩ := h
    refine upT_go R a fun k H1 ρ1 S1 e1 R1 a1 => ?_
    cases k with
    | true => exact iteT (a1 H1 ρ1 (Ext.refl _ _) R1.1)
    | false => exact iteF ⟨η, S1, ρ1, R1, a1⟩
theorem dt_not (ha : PT X a (upT X.K cls W c1)) : PT X (.UnaryOp .Not a pos) (upT X.K cls W (tNot' c1)) :=
  PT.weak (pt_not ha) fun σ H Q h => by
    obtain ⟨η, S, ρ, R, a⟩ := h
    exact upT_go R a fun k H1 ρ1 S1 e1 R1 a1 => a1 H1 ρ1 (Ext.refl _ _) R1.1

/-! ### argument lists, displays, calls -/
variable {es : List Expr} {A : DA} {e : Expr} {x : Str} {p : Pos}
theorem da_nil : PA X [] (upA X.K cls W aNil) := PA.weak pa_nil fun σ H Q h => by
  obtain ⟨η, S, ρ, R, a⟩ := h
  exact a H ρ (Ext.refl _ _) R.1 [] .nil
theorem da_cons (ha : PE X e (upE X.K cls W fa)) (hr : PA X es (upA X.K cls W A)) (hs : starEach (e :: es) X.env = (false, eval e X.env) :: starEach es X.env := by rfl) : PA X (e :: es) (upA X.K cls W (aCons fa A)) :=
  PA.weak (pa_cons ha hr hs) fun σ H Q h => by
    obtain ⟨η, S, ρ, R, a⟩ := h
    refine upE_go R a fun x v H1 ρ1 S1 e1 R1 r1 a1 => ?_
    exact upA_go R1 a1 fun xs vs H2 ρ2 S2 e2 R2 r2 a2 => a2 H2 ρ2 (Ext.refl _ _) R2.1 _ (.cons (RD.ext e2 r1) r2)
theorem de_tup {x1} (h : PA X es (upA X.K cls W A)) : PE X (.Tuple es x1 pos) (upE X.K cls W (eTup A)) :=
  PE.weak (pe_tup h) fun σ H Q q => by
    obtain ⟨η, S, ρ, R, a⟩ := q
    refine upA_go R a fun xs vs H1 ρ1 S1 e1 R1 r1 a1 => ?_
    by_cases hl : xs.length ≤ sizeLine
    · rw [if_pos hl] at a1
      refine ⟨by rw [r1.length]; exact hl, fun p hp => ?_⟩
      exact a1 _ ρ1 (Ext.side hp) (RS.side R1.1 hp) _ (.tup (SqT.of upd_same) (RDs.ext (Ext.side hp) r1))
    · rw [if_neg hl] at a1; exact a1.elim
theorem de_lst (h : PA X es (upA X.K cls W A)) : PE X (.List es pos) (upE X.K cls W (eLst A)) :=
  PE.weak (pe_lst h) fun σ H Q q => by
    obtain ⟨η, S, ρ, R, a⟩ := q
    refine upA_go R a fun xs vs H1 ρ1 S1 e1 R1 r1 a1 => ?_
    by_cases hl : xs.length ≤ sizeLine
    · rw [if_pos hl] at a1
      refine ⟨by rw [r1.length]; exact hl, fun p hp => ?_⟩
      exact a1 _ (ρ1 ++ [p]) (Ext.new R1.1 hp) (RS.new R1.1 hp ⟨vs, upd_same, RDs.ext (Ext.new R1.1 hp) r1⟩) _ (.ref (RS.new' R1.1))
    · rw [if_neg hl] at a1; exact a1.elim
theorem de_call {k : Nat} {f : Addr} {fd : FuncData} {ps : List Str} {n : Nat} {F : List D → M D} (G : FnOk X.prog X.w X.K X.mg X.base (L2.CX X.prog X.w) k f fd ps (spD X.K cls n F)) (hr : Room k X.A) (hg : Gl X x) (hm : X.mg x = some (.ref f)) (hk : PySem.W.keepIn X.K (.ref f) = true) (hb : Binds X.K fd ps [])
    (hx : ∀ σ, PassesAt (L2.CX X.prog X.w) X σ (WE W σ)) (ha : PA X (e :: es) (upA X.K cls W A)) (hn : ps.length = n) (hdb : (x == ("__debug__" : Str)) = false := by decide) (he : starEach (e :: es) X.env = (false, eval e X.env) :: starEach es X.env := by rfl) (hpl : (backTo pos (starEach es X.env)).any (·.1) = false := by rfl)
    (hlen : ∀ ds : List D, ∀ S, F ds S = .bad ∨ ds.length = n) :
    PE X (.Call (.Name x p) (e :: es) [] pos) (upE X.K cls W (eCall F A)) :=
  PE.weak (pe_callSD G hr hg hm hk hb .nil hx ha hdb he hpl) fun σ H Q q => by
    obtain ⟨η, S, ρ, R, a⟩ := q
    refine upA_go R a fun xs vs H1 ρ1 S1 e1 R1 r1 a1 => ?_
    rw [List.append_nil]
    refine ⟨?_, xs, S1, ρ1, R1.1, r1, ?_⟩
    · rcases hlen xs S1 with h | h
      · rw [h] at a1; exact a1.elim
      · rw [r1.length]; exact h
    · cases q : F xs S1 with
      | bad => rw [q] at a1; exact a1.elim
      | ok d S2 => rw [q] at a1; exact a1
      | err x S2 => rw [q] at a1; exact a1
theorem tCB_up {g : PL} {σ : L2.St} {H : Hp} {Q : VK} (h : upE K cls W (eCB g A) σ H Q) : tCB (upOL K cls g) (upA K cls W A) σ H Q := by
  obtain ⟨η, S, ρ, R, a⟩ := h
  refine upA_go R a fun xs vs H1 ρ1 S1 e1 R1 r1 a1 => ?_
  obtain ⟨d, S', hg, q⟩ := after_opt a1
  exact ⟨xs, S1, ρ1, d, S', R1.1, r1, hg, q⟩
theorem de_callB {id : String} {g : PL} (hc : CallR X (.builtin id) (upOL X.K cls g)) (hg : Gl X x) (hm : X.mg x = none) (hv : bootBuiltins x = some (.builtin id)) (ha : PA X (e :: es) (upA X.K cls W A)) (hn : x ≠ "__name__" := by decide) (hdb : (x == ("__debug__" : Str)) = false := by decide)
    (he : starEach (e :: es) X.env = (false, eval e X.env) :: starEach es X.env := by rfl) (hpl : (backTo pos (starEach es X.env)).any (·.1) = false := by rfl) : PE X (.Call (.Name x p) (e :: es) [] pos) (upE X.K cls W (eCB g A)) :=
  PE.weak (pe_callB hc hg hm hv ha hn hdb he hpl) fun _ _ _ h => tCB_up h
theorem de_callTy {T : String} {g : PL} (hc : CallR X (.type T) (upOL X.K cls g)) (hg : Gl X x) (hm : X.mg x = none) (hv : bootBuiltins x = some (.type T)) (ha : PA X (e :: es) (upA X.K cls W A)) (hn : x ≠ "__name__" := by decide) (hdb : (x == ("__debug__" : Str)) = false := by decide)
    (he : starEach (e :: es) X.env = (false, eval e X.env) :: starEach es X.env := by rfl) (hpl : (backTo pos (starEach es X.env)).any (·.1) = false := by rfl) : PE X (.Call (.Name x p) (e :: es) [] pos) (upE X.K cls W (eCB g A)) :=
  PE.weak (pe_callTy hc hg hm hv ha hn hdb he hpl) fun _ _ _ h => tCB_up h
end
end DL

set_option Elab.async false
set_option linter.all false
set_option maxRecDepth 100000
set_option maxHeartbeats 1000000
/-! The layer's statements, loops, comprehensions. -/
namespace DL
open PySem PySem.Spec L2
open PyProof.Rows hiding St

/-! ### functions -/
inductive Tg where
  | nm (i : Nat) | tp (l : List Nat)
def putAll : List Nat → List D → DEnv → DEnv
  | i :: is, d :: ds, η => putAll is ds (η.set i (some d))
  | _, _, η => η
def Tg.put : Tg → D → DEnv → Option DEnv
  | .nm i, d, η => some (η.set i (some d))
  | .tp l, .tup ds, η => if ds.length = l.length then some (putAll l ds η) else none
  | _, _, _ => none
def Tg.ix : Tg → List Nat
  | .nm i => [i]
  | .tp l => l
structure Itm where
  items : List D
  src : List (Nat × O)
abbrev DI := DEnv → M Itm
def srcOk : List (Nat × O) → Store → Prop
  | [], _ => True
  | p :: r, S => S[p.1]? = some p.2 ∧ srcOk r S
def wipeD (η : DEnv) : List Nat → DEnv
  | [] => η
  | v :: vs => (wipeD η vs).set v none
def sNext : DS := fun η S => .nx η S
def sSeq (f g : DS) : DS := fun η S => match f η S with | .nx η' S' => g η' S' | o => o
def sBrk : DS := fun η S => .bk η S
def sCnt : DS := fun η S => .ct η S
def sDrop (f : DE) : DS := fun η S => match f η S with | .ok _ S' => .nx η S' | .err x S' => .err x η S' | .bad => .bad
def sRet (f : DE) : DS := fun η S => match f η S with | .ok d S' => .rt d S' | .err x S' => .err x η S' | .bad => .bad
def sRetN : DS := fun _ S => .rt .non S
def sIf (c : DT) (f g : DS) : DS := fun η S => match c η S with | .ok b S' => if b = true then f η S' else g η S' | .err x S' => .err x η S' | .bad => .bad
def sNever : DS := fun _ _ => .bad
def sSet (g : Tg) (f : DE) : DS := fun η S => match f η S with | .ok d S' => (match g.put d η with | some η' => .nx η' S' | none => .bad) | .err x S' => .err x η S' | .bad => .bad
/-- i, j (, l) = a, b (, c) -/
def sPar (l : List Nat) (f : DA) : DS := fun η S => match f η S with | .ok ds S' => if ds.length = l.length then .nx (putAll l ds η) S' else .bad | .err x S' => .err x η S' | .bad => .bad
def sAug (i : Nat) (g : P2) (f : DE) : DS := fun η S => match η[i]? with
  | some (some d) => (match f η S with | .ok y S' => (match g d y S' with | some (z, S2) => .nx (η.set i (some z)) S2 | none => .bad) | .err x S' => .err x η S' | .bad => .bad)
  | _ => .bad
/-- o[i] = e -/
def sPut (g : D → D → D → Store → Option Store) (f fo fi : DE) : DS := fun η S => match f η S with
  | .ok d S1 => (match fo η S1 with
    | .ok o S2 => (match fi η S2 with
      | .ok i S3 => (match g o i d S3 with | some S4 => .nx η S4 | none => .bad)
      | .err x S' => .err x η S' | .bad => .bad)
    | .err x S' => .err x η S' | .bad => .bad)
  | .err x S' => .err x η S' | .bad => .bad
def whileF (c : DT) (b : DS) : Nat → DS
  | 0 => fun _ _ => .bad
  | n + 1 => fun η S => match c η S with
    | .ok true S1 => (match b η S1 with
      | .nx η2 S2 => whileF c b n η2 S2
      | .ct η2 S2 => whileF c b n η2 S2
      | .bk η2 S2 => .nx η2 S2
      | o => o)
    | .ok false S1 => .nx η S1
    | .err x S' => .err x η S'
    | .bad => .bad
/-- turns enough -/
def fuel : Nat := 2 ^ 100
def sWhile (c : DT) (b : DS) : DS := whileF c b fuel
open Classical in
noncomputable def forF (src : List (Nat × O)) (g : Tg) (b : DS) : List D → DS
  | [] => fun η S => if srcOk src S then .nx η S else .bad
  | x :: xs => fun η S => if srcOk src S then (match g.put x η with
      | some η1 => (match b η1 S with
        | .nx η2 S2 => forF src g b xs η2 S2
        | .ct η2 S2 => forF src g b xs η2 S2
        | .bk η2 S2 => .nx η2 S2
        | o => o)
      | none => .bad) else .bad
noncomputable def sFor (it : DI) (g : Tg) (b : DS) : DS := fun η S => match it η S with | .ok I S' => forF I.src g b I.items η S' | .err x S' => .err x η S' | .bad => .bad
open Classical in
noncomputable def lcF (src : List (Nat × O)) (g : Tg) (t : DT) (e : DE) (η : DEnv) : List D → Store → List D → Option (List D × Store)
  | [], S, acc => if srcOk src S then some (acc, S) else none
  | x :: xs, S, acc => if srcOk src S then (match g.put x η with
      | some η1 => (match t η1 S with
        | .ok true S1 => (match e η1 S1 with | .ok y S2 => if acc.length < sizeLine then lcF src g t e η xs S2 (acc ++ [y]) else none | _ => none)
        | .ok false S1 => lcF src g t e η xs S1 acc
        | _ => none)
      | none => none) else none
noncomputable def eLc (it : DI) (g : Tg) (t : DT) (e : DE) (vs : List Nat) : DE := fun η S => match it η S with
  | .ok I S1 => (match lcF I.src g t e (wipeD η vs) I.items S1 [] with | some (acc, S2) => .ok (.ref S2.length) (S2 ++ [.lst acc]) | none => .bad)
  | .err x S' => .err x S'
  | .bad => .bad
def tYes' : DT := fun _ S => .ok true S
def start (n : Nat) (ds : List D) : DEnv := ds.map some ++ List.replicate (n - ds.length) none
/-- a def: n parameters, m names, its body -/
def runD (n m : Nat) (b : DS) : List D → M D := fun ds S => if ds.length = n then (match b (start m ds) S with
  | .nx _ S' => .ok .non S' | .rt d S' => .ok d S' | .err x _ S' => .err x S' | _ => .bad) else .bad
theorem runD_len {n m : Nat} {b : DS} (ds : List D) (S : Store) : runD n m b ds S = .bad ∨ ds.length = n := by
  unfold runD
  by_cases h : ds.length = n
  · exact .inr h
  · rw [if_neg h]; exact .inl rfl

section
variable {K : PySem.W.Frag} {cls : Nat → Addr} {W : WX} {X : Cx}
theorem RE.putAll {H : Hp} {ρ : List Addr} : ∀ {l : List Nat} {vs : List V} {ds : List D} {σ : L2.St} {η : DEnv}, RDs K H ρ vs ds → RE K H ρ σ η →
    RE K H ρ ((l.zip vs).foldl (fun (σ : L2.St) p => σ.set p.1 (some p.2)) σ) (DL.putAll l ds η)
  | [], _, _, _, _, _, r => by simpa [DL.putAll] using r
  | _ :: _, _, _, _, _, .nil, r => by simpa [DL.putAll] using r
  | i :: is, _, _, _, _, .cons h t, r => by
    simp only [List.zip_cons_cons, List.foldl_cons, DL.putAll]
    exact RE.putAll t (RE.set h i r)

/-- from a function's end to the next -/
theorem upE_s {f : DE} {η : DEnv} {S : Store} {ρ : List Addr} {σ : L2.St} {H : Hp} {E : Ends} {Q : VK} {k : D → Store → Out}
    (R : Rel K cls σ H η S ρ) (a : AfterS K cls W E H ρ (match f η S with | .ok d S' => k d S' | .err x S' => .err x η S' | .bad => .bad))
    (h : ∀ d v H1 ρ1 S1, Ext H ρ H1 ρ1 → Rel K cls σ H1 η S1 ρ1 → RD K H1 ρ1 v d → AfterS K cls W E H1 ρ1 (k d S1) → Q v H1) : upE K cls W f σ H Q := by
  refine ⟨η, S, ρ, R, ?_⟩
  cases q : f η S with
  | bad => rw [q] at a; exact a.elim
  | err x S' => rw [q] at a; exact fun cv od H1 ρ1 e R1 rx => a cv od σ H1 ρ1 e R1 (RE.ext e R.2) rx
  | ok d S' => rw [q] at a; exact fun H1 ρ1 e R1 v r => h d v H1 ρ1 S' e ⟨R1, RE.ext e R.2⟩ r (AfterS.from e a)
theorem upT_s {f : DT} {η : DEnv} {S : Store} {ρ : List Addr} {σ : L2.St} {H : Hp} {E : Ends} {Q : Bool → Hp → Prop} {k : Bool → Store → Out}
    (R : Rel K cls σ H η S ρ) (a : AfterS K cls W E H ρ (match f η S with | .ok d S' => k d S' | .err x S' => .err x η S' | .bad => .bad))
    (h : ∀ d H1 ρ1 S1, Ext H ρ H1 ρ1 → Rel K cls σ H1 η S1 ρ1 → AfterS K cls W E H1 ρ1 (k d S1) → Q d H1) : upT K cls W f σ H Q := by
  refine ⟨η, S, ρ, R, ?_⟩
  cases q : f η S with
  | bad => rw [q] at a; exact a.elim
  | err x S' => rw [q] at a; exact fun cv od H1 ρ1 e R1 rx => a cv od σ H1 ρ1 e R1 (RE.ext e R.2) rx
  | ok d S' => rw [q] at a; exact fun H1 ρ1 e R1 => h d H1 ρ1 S' e ⟨R1, RE.ext e R.2⟩ (AfterS.from e a)
theorem upA_s {f : DA} {η : DEnv} {S : Store} {ρ : List Addr} {σ : L2.St} {H : Hp} {E : Ends} {Q : List V → Hp → Prop} {k : List D → Store → Out}
    (R : Rel K cls σ H η S ρ) (a : AfterS K cls W E H ρ (match f η S with | .ok d S' => k d S' | .err x S' => .err x η S' | .bad => .bad))
    (h : ∀ d v H1 ρ1 S1, Ext H ρ H1 ρ1 → Rel K cls σ H1 η S1 ρ1 → RDs K H1 ρ1 v d → AfterS K cls W E H1 ρ1 (k d S1) → Q v H1) : upA K cls W f σ H Q := by
  refine ⟨η, S, ρ, R, ?_⟩
  cases q : f η S with
  | bad => rw [q] at a; exact a.elim
  | err x S' => rw [q] at a; exact fun cv od H1 ρ1 e R1 rx => a cv od σ H1 ρ1 e R1 (RE.ext e R.2) rx
  | ok d S' => rw [q] at a; exact fun H1 ρ1 e R1 v r => h d v H1 ρ1 S' e ⟨R1, RE.ext e R.2⟩ r (AfterS.from e a)

/-! ### statements -/
variable {st : Stmt} {rest sts : List Stmt} {f g : DS} {fe fb : DE} {e b c : Expr} {pos : Pos} {ct : DT}
theorem ds_nil : PSs X [] (upS X.K cls W sNext) := PSs.weak pss_nil fun D σ H h => by
  obtain ⟨η, S, ρ, R, a⟩ := h
  exact a σ H ρ (Ext.refl _ _) R.1 R.2
theorem ds_cons (h1 : PS X st (upS X.K cls W f)) (h2 : PSs X rest (upS X.K cls W g)) : PSs X (st :: rest) (upS X.K cls W (sSeq f g)) :=
  PSs.weak (pss_cons h1 h2) fun D σ H h => by
    obtain ⟨η, S, ρ, R, a⟩ := h
    refine ⟨η, S, ρ, R, ?_⟩
    unfold sSeq at a
    cases q : f η S with
    | nx η1 S1 =>
      rw [q] at a
      exact fun σ1 H1 ρ1 e1 R1 r1 => ⟨η1, S1, ρ1, ⟨R1, r1⟩, AfterS.from e1 a⟩
    | rt d S1 => rw [q] at a; exact a
    | bk η1 S1 => rw [q] at a; exact a
    | ct η1 S1 => rw [q] at a; exact a
    | err x η1 S1 => rw [q] at a; exact a
    | bad => rw [q] at a; exact a.elim
theorem ds_one (h1 : PS X st (upS X.K cls W f)) : PSs X [st] (upS X.K cls W f) := pss_one h1
theorem dps_pass : PS X (.Pass pos) (upS X.K cls W sNext) := PS.weak ps_pass fun D σ H h => by
  obtain ⟨η, S, ρ, R, a⟩ := h
  exact a σ H ρ (Ext.refl _ _) R.1 R.2
theorem dps_break : PS X (.Break pos) (upS X.K cls W sBrk) := PS.weak ps_break fun D σ H h => by
  obtain ⟨η, S, ρ, R, a⟩ := h
  exact a σ H ρ (Ext.refl _ _) R.1 R.2
theorem dps_continue : PS X (.Continue pos) (upS X.K cls W sCnt) := PS.weak ps_continue fun D σ H h => by
  obtain ⟨η, S, ρ, R, a⟩ := h
  exact a σ H ρ (Ext.refl _ _) R.1 R.2
theorem dps_never : PS X st (upS X.K cls W sNever) := PS.weak ps_never fun D σ H h => by
  obtain ⟨η, S, ρ, R, a⟩ := h
  exact a
theorem dps_expr (he : PE X e (upE X.K cls W fe)) (hs : swapsWith e none pos.line X.env = pure false := by rfl) : PS X (.Expr e pos) (upS X.K cls W (sDrop fe)) :=
  PS.weak (ps_expr he hs) fun D σ H h => by
    obtain ⟨η, S, ρ, R, a⟩ := h
    exact upE_s (k := fun _ S' => .nx η S') R a fun d v H1 ρ1 S1 e1 R1 r1 a1 => a1 σ H1 ρ1 (Ext.refl _ _) R1.1 R1.2
theorem dps_ret (he : PE X e (upE X.K cls W fe)) : PS X (.Return (some e) pos) (upS X.K cls W (sRet fe)) :=
  PS.weak (ps_ret he) fun D σ H h => by
    obtain ⟨η, S, ρ, R, a⟩ := h
    exact upE_s (k := fun d S' => .rt d S') R a fun d v H1 ρ1 S1 e1 R1 r1 a1 => a1 v H1 ρ1 (Ext.refl _ _) R1.1 r1
theorem dps_retN : PS X (.Return none pos) (upS X.K cls W sRetN) := PS.weak ps_retN fun D σ H h => by
  obtain ⟨η, S, ρ, R, a⟩ := h
  exact a .non H ρ (Ext.refl _ _) R.1 .non
theorem dps_if {x y : List Stmt} (hc : PT X c (upT X.K cls W ct)) (ha : PSs X x (upS X.K cls W f)) (hb : PSs X y (upS X.K cls W g)) : PS X (.If c x y pos) (upS X.K cls W (sIf ct f g)) :=
  PS.weak (ps_if hc ha hb) fun D σ H h => by
    obtain ⟨η, S, ρ, R, a⟩ := h
    refine upT_s (k := fun b S' => if b = true then f η S' else g η S') R a fun d H1 ρ1 S1 e1 R1 a1 => ?_
    cases d with
    | true => exact iteT ⟨η, S1, ρ1, R1, a1⟩
    | false => exact iteF ⟨η, S1, ρ1, R1, a1⟩

/-! ### targets -/
def gNames : List Nat → TGs
  | [] => gNil
  | i :: is => gCons (gName i) (gNames is)
def tgOf (K : PySem.W.Frag) : Tg → TG
  | .nm i => gName i
  | .tp l => gTup K l.length (gNames l)
theorem gNames_ok : ∀ {l : List Nat} {vs : List V} {σ : L2.St} {H : Hp} {Q : L2.St → Hp → Prop}, vs.length = l.length → Q ((l.zip vs).foldl (fun (σ : L2.St) p => σ.set p.1 (some p.2)) σ) H → gNames l vs σ H Q
  | [], [], σ, H, Q, _, q => ⟨rfl, q⟩
  | i :: is, v :: vs, σ, H, Q, h, q => ⟨v, vs, rfl, gNames_ok (by simpa using h) q⟩
theorem wipe_set {v : V} : ∀ {vs : List Nat} {σ : L2.St} {i : Nat}, i ∈ vs → wipe (σ.set i (some v)) vs = wipe σ vs
  | [], _, _, h => by simp at h
  | j :: js, σ, i, h => by
    by_cases hj : i ∈ js
    · show (wipe (σ.set i (some v)) js).set j none = (wipe σ js).set j none
      rw [wipe_set hj]
    · have hij : i = j := by
        rcases List.mem_cons.mp h with h | h
        · exact h
        · exact absurd h hj
      subst hij
      show (wipe (σ.set i (some v)) js).set i none = (wipe σ js).set i none
      have comm : ∀ ks : List Nat, i ∉ ks → wipe (σ.set i (some v)) ks = (wipe σ ks).set i (some v) := by
        intro ks
        induction ks with
        | nil => intro _; rfl
        | cons k ks ih =>
          intro hk
          show (wipe (σ.set i (some v)) ks).set k none = ((wipe σ ks).set k none).set i (some v)
          rw [ih (fun z => hk (List.mem_cons_of_mem _ z))]
          rw [List.set_comm _ _ (fun z => hk (by rw [z]; exact List.mem_cons_self))]
      rw [comm js hj, List.set_set]
theorem wipe_fold : ∀ {l : List Nat} {vs : List V} {σ : L2.St} {ws : List Nat}, (∀ i ∈ l, i ∈ ws) → wipe ((l.zip vs).foldl (fun (σ : L2.St) p => σ.set p.1 (some p.2)) σ) ws = wipe σ ws
  | [], _, _, _, _ => rfl
  | _ :: _, [], _, _, _ => rfl
  | i :: is, v :: vs, σ, ws, h => by
    simp only [List.zip_cons_cons, List.foldl_cons]
    rw [wipe_fold fun j hj => h j (List.mem_cons_of_mem _ hj), wipe_set (h i List.mem_cons_self)]
theorem tgOf_ok {g : Tg} {d : D} {v : V} {η η' : DEnv} {σ : L2.St} {H : Hp} {ρ : List Addr} (r : RD K H ρ v d) (rη : RE K H ρ σ η) (h : g.put d η = some η') :
    ∃ σ', RE K H ρ σ' η' ∧ (∀ ws : List Nat, (∀ i ∈ g.ix, i ∈ ws) → wipe σ' ws = wipe σ ws) ∧ ∀ Q : L2.St → Hp → Prop, Q σ' H → tgOf K g v σ H Q := by
  cases g with
  | nm i =>
    cases h
    exact ⟨_, RE.set r i rη, fun ws hw => wipe_set (hw i (by simp [Tg.ix])), fun Q q => q⟩
  | tp l =>
    cases r with
    | tup hs rs =>
      rename_i vs ds
      have h' : (if ds.length = l.length then some (DL.putAll l ds η) else none) = some η' := h
      by_cases hl : ds.length = l.length
      · rw [if_pos hl] at h'
        cases h'
        exact ⟨_, RE.putAll rs rη, fun ws hw => wipe_fold hw, fun Q q => ⟨_, vs, rfl, hs, by rw [rs.length]; exact hl, gNames_ok (by rw [rs.length]; exact hl) q⟩⟩
      · rw [if_neg hl] at h'; cases h'
    | non => cases h
    | bl _ => cases h
    | int _ => cases h
    | str _ => cases h
    | ref _ => cases h
    | fro _ _ => cases h
theorem pgs_nil' : PGs X [] (gNames []) := pgs_nil
theorem pgs_cons' {e : Expr} {es : List Expr} {i : Nat} {l : List Nat} (h1 : PG X e (gName i)) (h2 : PGs X es (gNames l)) : True := trivial

/-- x = e; a, b = e -/
theorem dps_set {i : Nat} {x : Str} {pos' : Pos} (hN : X.N.Nodup) (hi : X.N[i]? = some x) (hx : Loc X.env.scope x) (he : PE X e (upE X.K cls W fe)) (hs : swapsWith e (some (.Name x pos')) pos.line X.env = pure false := by rfl)
    (hf : X.fn x = true ∨ X.env.scope.names.lookup x = some .local := by first | exact .inl rfl | exact .inr rfl | assumption) : PS X (.Assign [.Name x pos'] e pos) (upS X.K cls W (sSet (.nm i) fe)) :=
  PS.weak (ps_set hN hi hx he hs hf) fun D σ H h => by
    obtain ⟨η, S, ρ, R, a⟩ := h
    refine upE_s (k := fun d S' => .nx (η.set i (some d)) S') R a fun d v H1 ρ1 S1 e1 R1 r1 a1 => ?_
    exact a1 _ H1 ρ1 (Ext.refl _ _) R1.1 (RE.set r1 i R1.2)
theorem dps_setT {l : List Nat} (hps : PS X st (tAsg (upE X.K cls W fe) (tgOf X.K (.tp l)))) : PS X st (upS X.K cls W (sSet (.tp l) fe)) :=
  PS.weak hps fun D σ H h => by
    obtain ⟨η, S, ρ, R, a⟩ := h
    refine upE_s (k := fun d S' => match Tg.put (.tp l) d η with | some η' => .nx η' S' | none => .bad) R a fun d v H1 ρ1 S1 e1 R1 r1 a1 => ?_
    cases q : Tg.put (.tp l) d η with
    | none => rw [q] at a1; exact a1.elim
    | some η' =>
      rw [q] at a1
      obtain ⟨σ', rη, _, k⟩ := tgOf_ok r1 R1.2 q
      exact k _ (a1 σ' H1 ρ1 (Ext.refl _ _) R1.1 rη)
theorem dps_par2 {i j : Nat} {A : DA} (h : PS X st (tPar i j (upA X.K cls W A))) : PS X st (upS X.K cls W (sPar [i, j] A)) :=
  PS.weak h fun D σ H h => by
    obtain ⟨η, S, ρ, R, a⟩ := h
    refine upA_s (k := fun ds S' => if ds.length = [i, j].length then .nx (DL.putAll [i, j] ds η) S' else .bad) R a fun d v H1 ρ1 S1 e1 R1 r1 a1 => ?_
    by_cases hl : d.length = [i, j].length
    · rw [if_pos hl] at a1
      cases r1 with
      | nil => simp at hl
      | cons r1 t1 =>
        cases t1 with
        | nil => simp at hl
        | cons r2 t2 =>
          cases t2 with
          | cons _ _ => simp at hl
          | nil => exact ⟨_, _, rfl, a1 _ H1 ρ1 (Ext.refl _ _) R1.1 (RE.set r2 j (RE.set r1 i R1.2))⟩
    · rw [if_neg hl] at a1; exact a1.elim
theorem dps_par3 {i j l : Nat} {A : DA} (h : PS X st (tPar3 i j l (upA X.K cls W A))) : PS X st (upS X.K cls W (sPar [i, j, l] A)) :=
  PS.weak h fun D σ H h => by
    obtain ⟨η, S, ρ, R, a⟩ := h
    refine upA_s (k := fun ds S' => if ds.length = [i, j, l].length then .nx (DL.putAll [i, j, l] ds η) S' else .bad) R a fun d v H1 ρ1 S1 e1 R1 r1 a1 => ?_
    by_cases hl : d.length = [i, j, l].length
    · rw [if_pos hl] at a1
      cases r1 with
      | nil => simp at hl
      | cons r1 t1 =>
        cases t1 with
        | nil => simp at hl
        | cons r2 t2 =>
          cases t2 with
          | nil => simp at hl
          | cons r3 t3 =>
            cases t3 with
            | cons _ _ => simp at hl
            | nil => exact ⟨_, _, _, rfl, a1 _ H1 ρ1 (Ext.refl _ _) R1.1 (RE.set r3 l (RE.set r2 j (RE.set r1 i R1.2)))⟩
    · rw [if_neg hl] at a1; exact a1.elim
theorem dps_aug {i : Nat} {g : P2} (hps : PS X st (tAug i (upE X.K cls W fe) (upO2 X.K cls g))) : PS X st (upS X.K cls W (sAug i g fe)) :=
  PS.weak hps fun D σ H h => by
    obtain ⟨η, S, ρ, R, a⟩ := h
    unfold sAug at a
    cases q : η[i]? with
    | none => rw [q] at a; exact a.elim
    | some o =>
      cases o with
      | none => rw [q] at a; exact a.elim
      | some d =>
        rw [q] at a
        obtain ⟨v, h1, h2⟩ := RE.get R.2 q
        refine ⟨v, h1, ?_⟩
        refine upE_s (k := fun y S' => match g d y S' with | some (z, S2) => .nx (η.set i (some z)) S2 | none => .bad) R a fun y u H1 ρ1 S1 e1 R1 r1 a1 => ?_
        cases hg : g d y S1 with
        | none => rw [hg] at a1; exact a1.elim
        | some p =>
          obtain ⟨z, S2⟩ := p
          rw [hg] at a1
          refine ⟨d, y, S1, ρ1, z, S2, R1.1, RD.ext e1 h2, r1, hg, fun H2 ρ2 w' e2 R2 r2 => ?_⟩
          exact a1 _ H2 ρ2 e2 R2 (RE.set r2 i (RE.ext e2 R1.2))
def upPut (K : PySem.W.Frag) (cls : Nat → Addr) (g : D → D → D → Store → Option Store) : TSet := fun o i v H Q => ∃ od id vd S ρ S', RS K cls H ρ S ∧ RD K H ρ o od ∧ RD K H ρ i id ∧ RD K H ρ v vd ∧ g od id vd S = some S' ∧
  ∀ H' ρ', Ext H ρ H' ρ' → RS K cls H' ρ' S' → Q H'
theorem dps_put {fo fi : DE} {g : D → D → D → Store → Option Store} (hps : PS X st (tAsg (upE X.K cls W fe) (gSub (upE X.K cls W fo) (upE X.K cls W fi) (upPut X.K cls g)))) : PS X st (upS X.K cls W (sPut g fe fo fi)) :=
  PS.weak hps fun D σ H h => by
    obtain ⟨η, S, ρ, R, a⟩ := h
    refine upE_s (k := fun d S1 => match fo η S1 with
      | .ok o S2 => (match fi η S2 with
        | .ok i S3 => (match g o i d S3 with | some S4 => .nx η S4 | none => .bad)
        | .err x S' => .err x η S' | .bad => .bad)
      | .err x S' => .err x η S' | .bad => .bad) R a fun d v H1 ρ1 S1 e1 R1 r1 a1 => ?_
    refine upE_s (k := fun o S2 => match fi η S2 with
        | .ok i S3 => (match g o i d S3 with | some S4 => .nx η S4 | none => .bad)
        | .err x S' => .err x η S' | .bad => .bad) R1 a1 fun od ov H2 ρ2 S2 e2 R2 r2 a2 => ?_
    refine upE_s (k := fun i S3 => match g od i d S3 with | some S4 => .nx η S4 | none => .bad) R2 a2 fun id iv H3 ρ3 S3 e3 R3 r3 a3 => ?_
    cases hg : g od id d S3 with
    | none => rw [hg] at a3; exact a3.elim
    | some S4 =>
      rw [hg] at a3
      exact ⟨od, id, d, S3, ρ3, S4, R3.1, RD.ext e3 r2, r3, RD.ext (e2.trans e3) r1, hg, fun H4 ρ4 e4 R4 => a3 σ H4 ρ4 e4 R4 (RE.ext e4 R3.2)⟩
end
end DL

set_option Elab.async false
set_option linter.all false
set_option maxRecDepth 100000
set_option maxHeartbeats 1000000
/-! The layer's loops and comprehensions. -/
namespace DL
open PySem PySem.Spec L2
open PyProof.Rows hiding St
section
variable {K : PySem.W.Frag} {cls : Nat → Addr} {W : WX} {X : Cx} {e b c : Expr} {pos : Pos} {ct : DT} {f g : DS} {fe : DE}

theorem dps_while {body : List Stmt} (hps : PS X (.While c body [] pos) (tWhile (upT X.K cls W ct) (upS X.K cls W f))) : PS X (.While c body [] pos) (upS X.K cls W (sWhile ct f)) :=
  PS.weak hps fun D σ H h => by
    obtain ⟨η, S, ρ, R, a⟩ := h
    refine ⟨fun m σ1 H1 => ∃ η S ρ, Rel X.K cls σ1 H1 η S ρ ∧ AfterS X.K cls W D H1 ρ (whileF ct f m η S), ⟨fuel, η, S, ρ, R, a⟩, ?_⟩
    rintro m σ1 H1 ⟨η1, S1, ρ1, R1, a1⟩
    cases m with
    | zero => exact a1.elim
    | succ m =>
      refine upT_s (E := D) (k := fun b S1 => if b = true then (match f η1 S1 with
      | .nx η2 S2 => whileF ct f m η2 S2
      | .ct η2 S2 => whileF ct f m η2 S2
      | .bk η2 S2 => .nx η2 S2
      | o => o) else .nx η1 S1) R1 ?_ fun d H2 ρ2 S2 e2 R2 a2 => ?_
      · unfold whileF at a1
        cases q : ct η1 S1 with
        | bad => rw [q] at a1; exact a1
        | err x S' => rw [q] at a1; exact a1
        | ok d S' =>
          rw [q] at a1
          cases d with
          | true => exact a1
          | false => exact a1
      · cases d with
        | false =>
          refine iteF ?_
          have a3 : AfterS X.K cls W D H2 ρ2 (.nx η1 S2) := a2
          exact a3 σ1 H2 ρ2 (Ext.refl _ _) R2.1 R2.2
        | true =>
          refine iteT ⟨fun σ' H' => ∃ η S ρ, Rel X.K cls σ' H' η S ρ ∧ AfterS X.K cls W D H' ρ (whileF ct f m η S), fun σ' H' q => ⟨m, Nat.lt_succ_self m, q⟩, η1, S2, ρ2, R2, ?_⟩
          have a3 : AfterS X.K cls W D H2 ρ2 (match f η1 S2 with
            | .nx η2 S2 => whileF ct f m η2 S2
            | .ct η2 S2 => whileF ct f m η2 S2
            | .bk η2 S2 => .nx η2 S2
            | o => o) := a2
          cases q : f η1 S2 with
          | nx η2 S3 => rw [q] at a3; exact fun σ' H' ρ' e' R' r' => ⟨η2, S3, ρ', ⟨R', r'⟩, AfterS.from e' a3⟩
          | ct η2 S3 => rw [q] at a3; exact fun σ' H' ρ' e' R' r' => ⟨η2, S3, ρ', ⟨R', r'⟩, AfterS.from e' a3⟩
          | bk η2 S3 => rw [q] at a3; exact a3
          | rt d S3 => rw [q] at a3; exact a3
          | err x η2 S3 => rw [q] at a3; exact a3
          | bad => rw [q] at a3; exact a3

/-! ### more addresses -/
mutual
theorem rdMore {H : Hp} {ρ : List Addr} (m : List Addr) : ∀ {v : V} {d : D}, RD K H ρ v d → RD K H (ρ ++ m) v d
  | _, _, .non => .non
  | _, _, .bl b => .bl b
  | _, _, .int i => .int i
  | _, _, .str x => .str x
  | _, _, .tup h t => .tup h (rdsMore m t)
  | _, _, .ref h => .ref (by rw [List.getElem?_append_left (List.getElem?_eq_some_iff.mp h).1]; exact h)
  | _, _, .fro h t => .fro h (rdsMore m t)
theorem rdsMore {H : Hp} {ρ : List Addr} (m : List Addr) : ∀ {vs : List V} {ds : List D}, RDs K H ρ vs ds → RDs K H (ρ ++ m) vs ds
  | _, _, .nil => .nil
  | _, _, .cons h t => .cons (rdMore m h) (rdsMore m t)
end
theorem rfMore {H : Hp} {ρ : List Addr} (m : List Addr) : ∀ {vs : List (Str × V)} {ds : List (Str × D)}, RF K H ρ vs ds → RF K H (ρ ++ m) vs ds
  | _, _, .nil => .nil
  | _, _, .cons h t => .cons (rdMore m h) (rfMore m t)
theorem rkMore {H : Hp} {ρ : List Addr} (m : List Addr) : ∀ {vs : List (Key × V)} {ds : List (D × D)}, RK K H ρ vs ds → RK K H (ρ ++ m) vs ds
  | _, _, .nil => .nil
  | _, _, .cons h t => .cons (rdMore m h) (rkMore m t)
theorem rsMore {H : Hp} {ρ : List Addr} {S : Store} {p : Addr} {u : O} (R : RS K cls H ρ S) (hp : p ∉ ρ) (h : RO K cls H (ρ ++ [p]) p u) : RS K cls H (ρ ++ [p]) (S ++ [u]) :=
  ⟨by simp [R.len], by rw [List.nodup_append]; exact ⟨R.nd, by simp, fun a ha b hb z => by rw [List.mem_singleton.mp hb] at z; exact hp (z ▸ ha)⟩, fun r v hr => by
    by_cases hl : r < S.length
    · rw [List.getElem?_append_left hl] at hr
      obtain ⟨a, e, q⟩ := R.ob r v hr
      refine ⟨a, by rw [List.getElem?_append_left (by rw [R.len]; exact hl)]; exact e, ?_⟩
      cases v with
      | lst l => obtain ⟨vs, q, r⟩ := q; exact ⟨vs, q, rdsMore _ r⟩
      | dic l => obtain ⟨vs, q, r⟩ := q; exact ⟨vs, q, rkMore _ r⟩
      | ins c l => obtain ⟨dx, vs, q, r⟩ := q; exact ⟨dx, vs, q, rfMore _ r⟩
    · rw [List.getElem?_append_right (by omega)] at hr
      have h0 : r - S.length = 0 := by
        have := (List.getElem?_eq_some_iff.mp hr).1
        simp at this; omega
      rw [h0] at hr
      simp at hr
      subst hr
      exact ⟨p, by rw [List.getElem?_append_right (by rw [R.len]; omega), R.len, h0]; rfl, h⟩⟩

/-! ### what is walked -/
/-- J walks the items of I, from where H₀, ρ₀ are -/
def JOk (K : PySem.W.Frag) (cls : Nat → Addr) (J : It) (I : Itm) (H₀ : Hp) (ρ₀ : List Addr) : Prop :=
  ∀ i H ρ S, Ext H₀ ρ₀ H ρ → RS K cls H ρ S → srcOk I.src S →
    (∀ d, I.items[i]? = some d → J.go i H ∧ ∀ x H', J.yld i H x H' → Ext H ρ H' ρ ∧ RS K cls H' ρ S ∧ RD K H' ρ x d) ∧ (I.items.length ≤ i → J.stop i H)
def upI (K : PySem.W.Frag) (cls : Nat → Addr) (W : WX) (f : DI) : TI := fun σ H R => ∃ η S ρ, Rel K cls σ H η S ρ ∧ After K cls W σ H ρ (f η S) fun I H' ρ' S' => ∀ J, JOk K cls J I H' ρ' → R J H'
theorem PI.weak {tg iter : Expr} {t t' : TI} (h : PI X tg iter t) (k : ∀ σ H R, t' σ H R → t σ H R) : PI X tg iter t' := ⟨fun pins s σ H R I q => h.run pins s σ H R I (k _ _ _ q)⟩

/-- a list, a tuple, a text: its items -/
def iSeq (f : DE) : DI := fun η S => (f η S).bind fun d S1 => match d with
  | .tup l => .ok ⟨l, []⟩ S1
  | .fro l => .ok ⟨l, []⟩ S1
  | .str x => .ok ⟨x.cps.toList.map fun c => .str ⟨#[c]⟩, []⟩ S1
  | .ref r => (match S1[r]? with
    | some (.lst l) => .ok ⟨l, [(r, .lst l)]⟩ S1
    | _ => .bad)
  | _ => .bad
def tAny (K : PySem.W.Frag) (tl : TE) : TI := fun σ H R => tl σ H fun x H1 => (∃ a, x = .ref a ∧ (∃ xs, SqL K H1 a xs) ∧ R (Itl K a) H1) ∨ (∃ a, x = .ref a ∧ (∃ xs, SqT K H1 a xs) ∧ R (Itt K a) H1) ∨ ∃ x', x = .str x' ∧ R (Its x') H1
theorem pi_any {tg l : Expr} {tl : TE} (hl : PE X l tl) : PI X tg l (tAny X.K tl) := by
  refine ⟨fun pins s σ H R I h => ?_⟩
  refine thn (hl.run pins s σ H _ I h) fun v s1 ⟨x, H1, I1, r1, q1⟩ => ?_
  rcases q1 with ⟨a, e, ⟨xs, hq⟩, q⟩ | ⟨a, e, ⟨xs, hq⟩, q⟩ | ⟨z, ez, q⟩
  · subst e
    cases r1
    obtain ⟨its, rv, p, hz⟩ := I1.list hq
    refine wpAny_pyIter_list p.isList ?_
    refine ⟨s1.heap.objs.size, [s1.heap.objs.size], _, _, H1, rfl, I1.kept (t' := s1.toks) fun b o e => Heap.get?_push_of_some _ e, turn_list a _, ⟨_, Heap.get?_push_size _ rfl, rfl, rfl⟩, fun b hb => ?_, q⟩
    have e : b = s1.heap.objs.size := by simpa using hb
    subst e
    exact I1.fpOk (Nat.le_refl _) (I1.hok.fresh (Nat.le_refl _))
  · subst e
    cases r1
    obtain ⟨its, rv, p, hz⟩ := I1.tuple hq
    refine wpAny_pyIter_tuple (show s1.heap.IsTuple a its.toArray from p) ?_
    refine ⟨s1.heap.objs.size, [s1.heap.objs.size], _, _, H1, rfl, I1.kept (t' := s1.toks) fun b o e => Heap.get?_push_of_some _ e, turn_tuple a _, ⟨_, Heap.get?_push_size _ rfl, rfl, rfl⟩, fun b hb => ?_, q⟩
    have e : b = s1.heap.objs.size := by simpa using hb
    subst e
    exact I1.fpOk (Nat.le_refl _) (I1.hok.fresh (Nat.le_refl _))
  · subst ez
    obtain ⟨t, rfl⟩ := r1
    cases ha : z.cps.all (· < 128)
    · exact wpAny_pyIter_wide ha (pi_one (tk := s1.toks) I1 _ (turn_str _ z t "str_iterator" (.inr rfl)) ⟨_, Heap.get?_push_size _ rfl, rfl, rfl⟩ q)
    · exact wpAny_pyIter_ascii ha (pi_one (tk := s1.toks) I1 _ (turn_str _ z t "str_ascii_iterator" (.inl rfl)) ⟨_, Heap.get?_push_size _ rfl, rfl, rfl⟩ q)
theorem RS.lst {H : Hp} {ρ : List Addr} {S : Store} {r : Nat} {a : Addr} {l : List D} (R : RS K cls H ρ S) (hr : ρ[r]? = some a) (h : S[r]? = some (.lst l)) : ∃ vs, H a = some (.lst vs) ∧ RDs K H ρ vs l := by
  obtain ⟨a', e, q⟩ := R.ob r _ h
  rw [hr] at e; cases e
  exact q
theorem getq {α : Type} {l : List α} {i : Nat} (h : i < l.length) : l[i]? = some l[i] := by simp [h]
theorem di_seq {tg l : Expr} (hl : PE X l (upE X.K cls W fe)) : PI X tg l (upI X.K cls W (iSeq fe)) :=
  PI.weak (pi_any hl) fun σ H Rr h => by
    obtain ⟨η, S, ρ, R, a⟩ := h
    refine upE_go R a fun d v H1 ρ1 S1 e1 R1 r1 a1 => ?_
    cases r1 with
    | non => exact a1.elim
    | bl _ => exact a1.elim
    | int _ => exact a1.elim
    | str x =>
      refine .inr (.inr ⟨x, rfl, a1 H1 ρ1 (Ext.refl _ _) R1.1 _ fun i H2 ρ2 S2 e2 R2 so => ⟨fun d hd => ?_, fun hi => ?_⟩⟩)
      · have hl : i < x.cps.size := by
          have := (List.getElem?_eq_some_iff.mp hd).1
          simpa using this
        refine ⟨hl, fun y H' hy => ?_⟩
        obtain ⟨rfl, c, hc, rfl⟩ := hy
        have hd' : d = .str ⟨#[c]⟩ := by
          rw [List.getElem?_map, Array.getElem?_toList, hc] at hd
          exact (Option.some.inj hd).symm
        subst hd'
        exact ⟨Ext.refl _ _, R2, .str _⟩
      · show x.cps.size ≤ i
        simpa using hi
    | tup hs rs =>
      rename_i a vs ds
      refine .inr (.inl ⟨a, rfl, ⟨vs, hs⟩, a1 H1 ρ1 (Ext.refl _ _) R1.1 _ fun i H2 ρ2 S2 e2 R2 so => ⟨fun d hd => ?_, fun hi => ?_⟩⟩)
      · obtain ⟨v, hv, _⟩ := RDs.get' rs hd
        refine ⟨⟨vs, v, SqT.ext e2 hs, hv⟩, fun y H' hy => ?_⟩
        obtain ⟨rfl, hy⟩ := hy
        have q := hy vs (SqT.ext e2 hs)
        obtain ⟨d', h1, h2⟩ := RDs.get rs q
        rw [hd] at h1; cases h1
        exact ⟨Ext.refl _ _, R2, RD.ext e2 h2⟩
      · exact ⟨vs, SqT.ext e2 hs, by rw [rs.length]; exact hi⟩
    | fro hs rs =>
      rename_i a vs ds
      refine .inl ⟨a, rfl, ⟨vs, hs.sq⟩, a1 H1 ρ1 (Ext.refl _ _) R1.1 _ fun i H2 ρ2 S2 e2 R2 so => ⟨fun d hd => ?_, fun hi => ?_⟩⟩
      · obtain ⟨v, hv, _⟩ := RDs.get' rs hd
        refine ⟨⟨vs, v, (SqF.ext e2 hs).sq, hv⟩, fun y H' hy => ?_⟩
        obtain ⟨rfl, hy⟩ := hy
        obtain ⟨d', h1, h2⟩ := RDs.get rs (hy vs (SqF.ext e2 hs).sq)
        rw [hd] at h1; cases h1
        exact ⟨Ext.refl _ _, R2, RD.ext e2 h2⟩
      · exact ⟨vs, (SqF.ext e2 hs).sq, by rw [rs.length]; exact hi⟩
    | ref hr =>
      rename_i a r
      cases q : S1[r]? with
      | none => simp only [q] at a1; exact a1.elim
      | some o =>
        cases o with
        | dic _ => simp only [q] at a1; exact a1.elim
        | ins _ _ => simp only [q] at a1; exact a1.elim
        | lst l =>
          simp only [q] at a1
          obtain ⟨vs, hv, rs⟩ := R1.1.lst hr q
          refine .inl ⟨a, rfl, ⟨vs, SqL.of hv⟩, a1 H1 ρ1 (Ext.refl _ _) R1.1 _ fun i H2 ρ2 S2 e2 R2 so => ?_⟩
          obtain ⟨vs2, hv2, rs2⟩ := R2.lst (e2.at hr) so.1
          refine ⟨fun d hd => ?_, fun hi => ?_⟩
          · obtain ⟨v, hv', _⟩ := RDs.get' rs2 hd
            refine ⟨⟨vs2, v, SqL.of hv2, hv'⟩, fun y H' hy => ?_⟩
            obtain ⟨rfl, hy⟩ := hy
            obtain ⟨d', h1, h2⟩ := RDs.get rs2 (hy vs2 (SqL.of hv2))
            rw [hd] at h1; cases h1
            exact ⟨Ext.refl _ _, R2, h2⟩
          · exact ⟨vs2, SqL.of hv2, by rw [rs2.length]; exact hi⟩
def rangeD (lo : Int) (n : Nat) : List D := (List.range n).map fun i => .int (lo + (i : Nat))
theorem jok_range {lo : Int} {n : Nat} {H : Hp} {ρ : List Addr} : JOk K cls (Itr lo n) ⟨rangeD lo n, []⟩ H ρ := fun i H2 ρ2 S2 e2 R2 so => ⟨fun d hd => by
  have hl : i < n := by
    have := (List.getElem?_eq_some_iff.mp hd).1
    simpa [rangeD] using this
  refine ⟨hl, fun y H' hy => ?_⟩
  obtain ⟨rfl, rfl⟩ := hy
  have hd' : d = .int (lo + (i : Nat)) := by
    simp [rangeD, hl] at hd
    exact hd.symm
  subst hd'
  exact ⟨Ext.refl _ _, R2, .int _⟩, fun hi => by
    show n ≤ i
    simpa [rangeD] using hi⟩
def iRng1 (fa : DA) : DI := fun η S => (fa η S).bind fun ds S1 => match ds with
  | [.int j] => if -(2 ^ 62) ≤ j ∧ j < 2 ^ 62 then .ok ⟨rangeD 0 j.toNat, []⟩ S1 else .bad
  | _ => .bad
def iRng2 (fa : DA) : DI := fun η S => (fa η S).bind fun ds S1 => match ds with
  | [.int i, .int j] => if -(2 ^ 62) ≤ i ∧ i < 2 ^ 62 ∧ -(2 ^ 62) ≤ j ∧ j < 2 ^ 62 then .ok ⟨rangeD i (j - i).toNat, []⟩ S1 else .bad
  | _ => .bad
theorem di_range1 {tg a : Expr} {A : DA} {p pos : Pos} (hg : Gl X "range") (hm : X.mg "range" = none) (ha : PA X [a] (upA X.K cls W A)) (hs : starEach [a] X.env = [(false, eval a X.env)] := by rfl) : PI X tg (.Call (.Name "range" p) [a] [] pos) (upI X.K cls W (iRng1 A)) :=
  PI.weak (pi_range1 hg hm ha hs) fun σ H Rr h => by
    obtain ⟨η, S, ρ, R, a⟩ := h
    refine upA_go R a fun ds vs H1 ρ1 S1 e1 R1 r1 a1 => ?_
    cases r1 with
    | nil => exact a1.elim
    | cons r1 t1 =>
      cases t1 with
      | cons _ _ => cases r1 <;> exact a1.elim
      | nil =>
        cases r1 with
        | int j =>
          have a2 : After X.K cls W σ H1 ρ1 (if -(2 ^ 62) ≤ j ∧ j < 2 ^ 62 then Res.ok (⟨rangeD 0 j.toNat, []⟩ : Itm) S1 else .bad) _ := a1
          by_cases hj : -(2 ^ 62) ≤ j ∧ j < 2 ^ 62
          · rw [if_pos hj] at a2
            exact ⟨j, rfl, hj.1, hj.2, a2 H1 ρ1 (Ext.refl _ _) R1.1 _ jok_range⟩
          · rw [if_neg hj] at a2; exact a2.elim
        | _ => exact a1.elim
theorem di_range2 {tg a b : Expr} {A : DA} {p pos : Pos} (hg : Gl X "range") (hm : X.mg "range" = none) (ha : PA X [a, b] (upA X.K cls W A)) (hs : starEach [a, b] X.env = [(false, eval a X.env), (false, eval b X.env)] := by rfl) (hs2 : starEach [b] X.env = [(false, eval b X.env)] := by rfl) :
    PI X tg (.Call (.Name "range" p) [a, b] [] pos) (upI X.K cls W (iRng2 A)) :=
  PI.weak (pi_range2 hg hm ha hs hs2) fun σ H Rr h => by
    obtain ⟨η, S, ρ, R, a⟩ := h
    refine upA_go R a fun ds vs H1 ρ1 S1 e1 R1 r1 a1 => ?_
    cases r1 with
    | nil => exact a1.elim
    | cons r1 t1 =>
      cases t1 with
      | nil => cases r1 <;> exact a1.elim
      | cons r2 t2 =>
        cases t2 with
        | cons _ _ => cases r1 <;> cases r2 <;> exact a1.elim
        | nil =>
          cases r1 with
          | int i =>
            cases r2 with
            | int j =>
              have a2 : After X.K cls W σ H1 ρ1 (if -(2 ^ 62) ≤ i ∧ i < 2 ^ 62 ∧ -(2 ^ 62) ≤ j ∧ j < 2 ^ 62 then Res.ok (⟨rangeD i (j - i).toNat, []⟩ : Itm) S1 else .bad) _ := a1
              by_cases hj : -(2 ^ 62) ≤ i ∧ i < 2 ^ 62 ∧ -(2 ^ 62) ≤ j ∧ j < 2 ^ 62
              · rw [if_pos hj] at a2
                exact ⟨i, j, rfl, hj, a2 H1 ρ1 (Ext.refl _ _) R1.1 _ jok_range⟩
              · rw [if_neg hj] at a2; exact a2.elim
            | _ => exact a1.elim
          | _ => exact a1.elim

/-! ### for -/
theorem upI_s {f : DI} {η : DEnv} {S : Store} {ρ : List Addr} {σ : L2.St} {H : Hp} {E : Ends} {Q : It → Hp → Prop} {k : Itm → Store → Out}
    (R : Rel K cls σ H η S ρ) (a : AfterS K cls W E H ρ (match f η S with | .ok d S' => k d S' | .err x S' => .err x η S' | .bad => .bad))
    (h : ∀ I J H1 ρ1 S1, Ext H ρ H1 ρ1 → Rel K cls σ H1 η S1 ρ1 → JOk K cls J I H1 ρ1 → AfterS K cls W E H1 ρ1 (k I S1) → Q J H1) : upI K cls W f σ H Q := by
  refine ⟨η, S, ρ, R, ?_⟩
  cases q : f η S with
  | bad => rw [q] at a; exact a.elim
  | err x S' => rw [q] at a; exact fun cv od H1 ρ1 e R1 rx => a cv od σ H1 ρ1 e R1 (RE.ext e R.2) rx
  | ok d S' => rw [q] at a; exact fun H1 ρ1 e R1 J r => h d J H1 ρ1 S' e ⟨R1, RE.ext e R.2⟩ r (AfterS.from e a)
theorem dps_for {st : Stmt} {it : DI} {g : Tg} (hps : PS X st (tFor (upI X.K cls W it) (tgOf X.K g) (upS X.K cls W f))) : PS X st (upS X.K cls W (sFor it g f)) :=
  PS.weak hps fun D σ H h => by
    obtain ⟨η, S, ρ, R, a⟩ := h
    refine upI_s (E := D) (k := fun I S' => forF I.src g f I.items η S') R a fun I J H1 ρ1 S1 e1 R1 jok a1 => ?_
    refine ⟨fun i m σ2 H2 => m = I.items.length - i ∧ i ≤ I.items.length ∧ ∃ η S ρ, Ext H1 ρ1 H2 ρ ∧ Rel X.K cls σ2 H2 η S ρ ∧ AfterS X.K cls W D H2 ρ (forF I.src g f (I.items.drop i) η S), ⟨_, rfl, Nat.zero_le _, η, S1, ρ1, Ext.refl _ _, R1, by simpa using a1⟩, ?_⟩
    rintro i m σ2 H2 ⟨rfl, hi, η2, S2, ρ2, e2, R2, a2⟩
    by_cases hl : i < I.items.length
    · rw [List.drop_eq_getElem_cons hl] at a2
      unfold forF at a2
      by_cases so : srcOk I.src S2
      · rw [if_pos so] at a2
        obtain ⟨j1, _⟩ := jok i H2 ρ2 S2 e2 R2.1 so
        obtain ⟨hgo, hy⟩ := j1 _ (getq hl)
        refine .inr ⟨hgo, fun σ' H' => i + 1 ≤ I.items.length ∧ ∃ η S ρ, Ext H1 ρ1 H' ρ ∧ Rel X.K cls σ' H' η S ρ ∧ AfterS X.K cls W D H' ρ (forF I.src g f (I.items.drop (i + 1)) η S), fun σ' H' q => ⟨_, by omega, rfl, q⟩, fun x H' hx => ?_⟩
        obtain ⟨e3, R3, r3⟩ := hy x H' hx
        cases q : g.put I.items[i] η2 with
        | none => rw [q] at a2; exact a2.elim
        | some η3 =>
          rw [q] at a2
          obtain ⟨σ3, rη, _, k⟩ := tgOf_ok r3 (RE.ext e3 R2.2) q
          refine k _ ⟨η3, S2, ρ2, ⟨R3, rη⟩, ?_⟩
          have a3 := AfterS.from e3 a2
          have e4 := e2.trans e3
          have nxt : ∀ η4 S4, AfterS X.K cls W D H' ρ2 (forF I.src g f (I.items.drop (i + 1)) η4 S4) → ∀ σ' H4 ρ4, Ext H' ρ2 H4 ρ4 → RS X.K cls H4 ρ4 S4 → RE X.K H4 ρ4 σ' η4 → i + 1 ≤ I.items.length ∧ ∃ η S ρ, Ext H1 ρ1 H4 ρ ∧ Rel X.K cls σ' H4 η S ρ ∧ AfterS X.K cls W D H4 ρ (forF I.src g f (I.items.drop (i + 1)) η S) :=
            fun η4 S4 a4 σ' H4 ρ4 e5 R5 r5 => ⟨hl, η4, S4, ρ4, e4.trans e5, ⟨R5, r5⟩, AfterS.from e5 a4⟩
          have a4 : AfterS X.K cls W D H' ρ2 (match f η3 S2 with
            | .nx η2 S2 => forF I.src g f (I.items.drop (i + 1)) η2 S2
            | .ct η2 S2 => forF I.src g f (I.items.drop (i + 1)) η2 S2
            | .bk η2 S2 => .nx η2 S2
            | o => o) := a3
          cases q2 : f η3 S2 with
          | nx η4 S4 => rw [q2] at a4; exact nxt η4 S4 a4
          | ct η4 S4 => rw [q2] at a4; exact nxt η4 S4 a4
          | bk η4 S4 => rw [q2] at a4; exact a4
          | rt d S4 => rw [q2] at a4; exact a4
          | err x η4 S4 => rw [q2] at a4; exact a4
          | bad => rw [q2] at a4; exact a4
      · rw [if_neg so] at a2; exact a2.elim
    · rw [List.drop_eq_nil_of_le (by omega)] at a2
      unfold forF at a2
      by_cases so : srcOk I.src S2
      · rw [if_pos so] at a2
        obtain ⟨_, j2⟩ := jok i H2 ρ2 S2 e2 R2.1 so
        exact .inl ⟨j2 (by omega), a2 σ2 H2 ρ2 (Ext.refl _ _) R2.1 R2.2⟩
      · rw [if_neg so] at a2; exact a2.elim

/-! ### [e for x in .. if ..] -/
abbrev WF : WX := fun _ _ _ _ => False
theorem passF {X : Cx} : ∀ σ, PassesAt (L2.CX X.prog X.w) X σ (WE WF σ) := fun _ _ _ _ _ _ _ h => by
  obtain ⟨_, _, _, _, _, _, _, _, _, _, _, _, z⟩ := h
  exact z.elim
theorem RE.wipe {H : Hp} {ρ : List Addr} {σ : L2.St} {η : DEnv} : ∀ (vs : List Nat), RE K H ρ σ η → RE K H ρ (L2.wipe σ vs) (wipeD η vs)
  | [], h => h
  | v :: vs, h => by
    have ih := RE.wipe vs h
    show RE K H ρ ((L2.wipe σ vs).set v none) ((wipeD η vs).set v none)
    have gen : ∀ {σ : L2.St} {η : DEnv} (i : Nat), RE K H ρ σ η → RE K H ρ (σ.set i none) (η.set i none) := by
      intro σ η i h
      induction h generalizing i with
      | nil => exact .nil
      | cons q t ih =>
        cases i with
        | zero => exact .cons trivial t
        | succ i => exact .cons q (ih i)
    exact gen v ih
theorem Ext.over {H H' : Hp} {ρ ρ' : List Addr} {p : Addr} {o : HO} {xs : List V} (e : Ext H ρ H' ρ') (hp : H p = none) (hx : H' p = some (.lst xs)) : Ext H ρ (upd H' p o) ρ' :=
  ⟨e.pre, fun b u hb h => by rw [upd_ne (ne_of_none h hp)]; exact e.keep b u hb h, fun b u h => by
    obtain ⟨o', q⟩ := e.dom b u h
    exact ⟨o', by rw [upd_ne (ne_of_none h hp)]; exact q⟩, fun b u h => by rw [upd_ne (ne_of_none h hp)]; exact e.tup b u h, fun b u v h => by rw [upd_ne (ne_of_none h hp)]; exact e.frz b u v h⟩
/-- a thing outside of the store is changed: tuples, and what stands in the store, stay -/
structure Aside (H H' : Hp) (ρ : List Addr) : Prop where
  tup : ∀ b xs, H b = some (.tup xs) → H' b = some (.tup xs)
  frz : ∀ b o u, H b = some (.frz o u) → H' b = some (.frz o u)
  at_ : ∀ b o, b ∈ ρ → H b = some o → H' b = some o
theorem Aside.of {H : Hp} {ρ : List Addr} {p : Addr} {o : HO} {xs : List V} (hp : p ∉ ρ) (hx : H p = some (.lst xs)) : Aside H (upd H p o) ρ :=
  ⟨fun b u h => by rw [upd_ne (fun z => by subst z; rw [hx] at h; cases h)]; exact h, fun b u v h => by rw [upd_ne (fun z => by subst z; rw [hx] at h; cases h)]; exact h,
   fun b u hb h => by rw [upd_ne (fun z : b = p => by subst z; exact hp hb)]; exact h⟩
theorem SqT.aside {H H' : Hp} {ρ : List Addr} (e : Aside H H' ρ) {a : Addr} {xs : List V} (h : SqT K H a xs) : SqT K H' a xs := by
  rcases h with (h | ⟨o, h⟩) | h
  · exact .inl (.inl (e.tup _ _ h))
  · exact .inl (.inr ⟨o, e.frz _ _ _ h⟩)
  · exact .inr h
theorem SqF.aside {H H' : Hp} {ρ : List Addr} (e : Aside H H' ρ) {a : Addr} {xs : List V} (h : SqF K H a xs) : SqF K H' a xs := by
  rcases h with ⟨o, h⟩ | h
  · exact .inl ⟨o, e.frz _ _ _ h⟩
  · exact .inr h
mutual
theorem RD.aside {H H' : Hp} {ρ : List Addr} (e : Aside H H' ρ) : ∀ {v : V} {d : D}, RD K H ρ v d → RD K H' ρ v d
  | _, _, .non => .non
  | _, _, .bl b => .bl b
  | _, _, .int i => .int i
  | _, _, .str x => .str x
  | _, _, .tup h t => .tup (SqT.aside e h) (RDs.aside e t)
  | _, _, .ref h => .ref h
  | _, _, .fro h t => .fro (SqF.aside e h) (RDs.aside e t)
theorem RDs.aside {H H' : Hp} {ρ : List Addr} (e : Aside H H' ρ) : ∀ {vs : List V} {ds : List D}, RDs K H ρ vs ds → RDs K H' ρ vs ds
  | _, _, .nil => .nil
  | _, _, .cons h t => .cons (RD.aside e h) (RDs.aside e t)
end
theorem RF.aside {H H' : Hp} {ρ : List Addr} (e : Aside H H' ρ) : ∀ {vs : List (Str × V)} {ds : List (Str × D)}, RF K H ρ vs ds → RF K H' ρ vs ds
  | _, _, .nil => .nil
  | _, _, .cons h t => .cons (RD.aside e h) (RF.aside e t)
theorem RK.aside {H H' : Hp} {ρ : List Addr} (e : Aside H H' ρ) : ∀ {vs : List (Key × V)} {ds : List (D × D)}, RK K H ρ vs ds → RK K H' ρ vs ds
  | _, _, .nil => .nil
  | _, _, .cons h t => .cons (RD.aside e h) (RK.aside e t)
theorem RE.aside {H H' : Hp} {ρ : List Addr} (e : Aside H H' ρ) {σ : L2.St} {η : DEnv} (h : RE K H ρ σ η) : RE K H' ρ σ η :=
  Paired.mapP h fun v d q => by
    cases v <;> cases d <;> first | exact q | exact RD.aside e q
theorem RS.aside {H H' : Hp} {ρ : List Addr} {S : Store} (e : Aside H H' ρ) (R : RS K cls H ρ S) : RS K cls H' ρ S :=
  ⟨R.len, R.nd, fun r o hr => by
    obtain ⟨a, ha, q⟩ := R.ob r o hr
    refine ⟨a, ha, ?_⟩
    have m := List.mem_of_getElem? ha
    cases o with
    | lst l => obtain ⟨vs, q, r⟩ := q; exact ⟨vs, e.at_ a _ m q, RDs.aside e r⟩
    | dic l => obtain ⟨vs, q, r⟩ := q; exact ⟨vs, e.at_ a _ m q, RK.aside e r⟩
    | ins c l => obtain ⟨dx, vs, q, r⟩ := q; exact ⟨dx, vs, e.at_ a _ m q, RF.aside e r⟩⟩
theorem tLc_up {it : DI} {g : Tg} {t : DT} {fe : DE} {vs : List Nat} (hix : ∀ i ∈ g.ix, i ∈ vs) {σ : L2.St} {H : Hp} {Q : VK} (h : upE K cls W (eLc it g t fe vs) σ H Q) :
    tLc (upI K cls W it) (tgOf K g) (upT K cls WF t) (upE K cls WF fe) vs σ H Q := by
  obtain ⟨η, S, ρ, R, a⟩ := h
  unfold eLc at a
  refine ⟨η, S, ρ, R, ?_⟩
  cases q : it η S with
  | bad => rw [q] at a; exact a.elim
  | err x S' => rw [q] at a; exact a
  | ok I S' =>
  rw [q] at a
  intro H1 ρ1 e1 R1 J jok D hD
  have R1' : Rel K cls σ H1 η S' ρ1 := ⟨R1, RE.ext e1 R.2⟩
  cases q2 : lcF I.src g t fe (wipeD η vs) I.items S' [] with
  | none => simp only [q2] at a; exact a.elim
  | some p =>
    obtain ⟨acc, S2⟩ := p
    simp only [q2] at a
    refine ⟨fun i m H2 => m = I.items.length - i ∧ i ≤ I.items.length ∧ ∃ S3 ρ3 ac vac, Ext H1 ρ1 H2 ρ3 ∧ D ∉ ρ3 ∧ H2 D = some (.lst vac) ∧ RDs K H2 ρ3 vac ac ∧ RS K cls H2 ρ3 S3 ∧ lcF I.src g t fe (wipeD η vs) (I.items.drop i) S3 ac = some (acc, S2), ⟨_, rfl, Nat.zero_le _, S', ρ1, [], [], Ext.side hD, R1.fresh hD, upd_same, .nil, R1.side hD, by simpa using q2⟩, ?_⟩
    rintro i m H2 ⟨rfl, hi, S3, ρ3, ac, vac, e2, nD, hDv, rac, R2, hl⟩
    by_cases hli : i < I.items.length
    · rw [List.drop_eq_getElem_cons hli] at hl
      unfold lcF at hl
      by_cases so : srcOk I.src S3
      · rw [if_pos so] at hl
        obtain ⟨j1, _⟩ := jok i H2 ρ3 S3 e2 R2 so
        obtain ⟨hgo, hy⟩ := j1 _ (getq hli)
        refine .inr ⟨hgo, fun H' => i + 1 ≤ I.items.length ∧ ∃ S3 ρ3 ac vac, Ext H1 ρ1 H' ρ3 ∧ D ∉ ρ3 ∧ H' D = some (.lst vac) ∧ RDs K H' ρ3 vac ac ∧ RS K cls H' ρ3 S3 ∧ lcF I.src g t fe (wipeD η vs) (I.items.drop (i + 1)) S3 ac = some (acc, S2), fun H' q => ⟨_, by omega, rfl, q⟩, fun x H' hx => ?_⟩
        obtain ⟨e3, R3, r3⟩ := hy x H' hx
        have e13 := e2.trans e3
        have wη : RE K H' ρ3 (L2.wipe σ vs) (wipeD η vs) := RE.wipe vs (RE.ext e13 R1'.2)
        cases q3 : g.put I.items[i] (wipeD η vs) with
        | none => rw [q3] at hl; cases hl
        | some η3 =>
          rw [q3] at hl
          dsimp only at hl
          obtain ⟨σ3, rη, wp, k⟩ := tgOf_ok r3 wη q3
          have wp' : L2.wipe σ3 vs = L2.wipe σ vs := by
            rw [wp vs hix]
            have idem : ∀ (us vs : List Nat) (σ : L2.St), (∀ i ∈ us, i ∈ vs) → L2.wipe (L2.wipe σ vs) us = L2.wipe σ vs := by
              intro us
              induction us with
              | nil => intro vs σ _; rfl
              | cons u us ih =>
                intro vs σ hu
                show (L2.wipe (L2.wipe σ vs) us).set u none = L2.wipe σ vs
                rw [ih vs σ fun i hi => hu i (List.mem_cons_of_mem _ hi)]
                have : ∀ (vs : List Nat), u ∈ vs → (L2.wipe σ vs).set u none = L2.wipe σ vs := by
                  intro vs
                  induction vs with
                  | nil => intro h; simp at h
                  | cons v vs ih2 =>
                    intro h
                    show ((L2.wipe σ vs).set v none).set u none = (L2.wipe σ vs).set v none
                    by_cases huv : u = v
                    · subst huv; rw [List.set_set]
                    · rw [List.set_comm _ _ (fun z => huv z.symm)]
                      have : u ∈ vs := by
                        rcases List.mem_cons.mp h with h | h
                        · exact absurd h huv
                        · exact h
                      rw [ih2 this]
                exact this vs (hu u List.mem_cons_self)
            exact idem vs vs σ fun _ h => h
          have dK : ∀ H4 ρ4, Ext H' ρ3 H4 ρ4 → H4 D = some (.lst vac) ∧ D ∉ ρ4 := fun H4 ρ4 e4 => by
            have h1 : H' D = some (.lst vac) := e3.keep D _ nD hDv
            refine ⟨e4.keep D _ nD h1, fun hm => ?_⟩
            obtain ⟨mo, em, nm⟩ := e4.pre
            rw [em] at hm
            rcases List.mem_append.mp hm with z | z
            · exact nD z
            · rw [nm D z] at h1; cases h1
          refine k _ ⟨wp', η3, S3, ρ3, ⟨R3, rη⟩, ?_⟩
          cases q4 : t η3 S3 with
          | bad => rw [q4] at hl; cases hl
          | err x S4 => rw [q4] at hl; cases hl
          | ok b S4 =>
            rw [q4] at hl
            intro H4 ρ4 e4 R4
            cases b with
            | false =>
              refine iteF ⟨hli, S4, ρ4, ac, vac, e13.trans e4, (dK H4 ρ4 e4).2, (dK H4 ρ4 e4).1, RDs.ext (e3.trans e4) rac, R4, hl⟩
            | true =>
              refine iteT ⟨η3, S4, ρ4, ⟨R4, RE.ext e4 rη⟩, ?_⟩
              have hl' : (match fe η3 S4 with | .ok y S2 => if ac.length < sizeLine then lcF I.src g t fe (wipeD η vs) (I.items.drop (i + 1)) S2 (ac ++ [y]) else none | _ => none) = some (acc, S2) := hl
              cases q5 : fe η3 S4 with
              | bad => rw [q5] at hl'; cases hl'
              | err x S5 => rw [q5] at hl'; cases hl'
              | ok y S5 =>
                rw [q5] at hl'
                by_cases hz : ac.length < sizeLine
                · have hl2 : (if ac.length < sizeLine then lcF I.src g t fe (wipeD η vs) (I.items.drop (i + 1)) S5 (ac ++ [y]) else none) = some (acc, S2) := hl'
                  rw [if_pos hz] at hl2
                  intro H5 ρ5 e5 R5 v r5
                  have e45 := e4.trans e5
                  obtain ⟨d5, n5⟩ := dK H5 ρ5 e45
                  have as : Aside H5 (upd H5 D (.lst (vac ++ [v]))) ρ5 := Aside.of n5 d5
                  refine ⟨vac, d5, by rw [rac.length]; exact hz, hli, S5, ρ5, ac ++ [y], vac ++ [v], Ext.over (e13.trans e45) hD d5, n5, upd_same, ?_, R5.aside as, hl2⟩
                  exact RDs.aside as (RDs.append (RDs.ext (e3.trans e45) rac) (.cons r5 .nil))
                · have hl2 : (if ac.length < sizeLine then lcF I.src g t fe (wipeD η vs) (I.items.drop (i + 1)) S5 (ac ++ [y]) else none) = some (acc, S2) := hl'
                  rw [if_neg hz] at hl2; cases hl2
      · rw [if_neg so] at hl; cases hl
    · rw [List.drop_eq_nil_of_le (by omega)] at hl
      unfold lcF at hl
      by_cases so : srcOk I.src S3
      · rw [if_pos so] at hl
        cases hl
        obtain ⟨_, j2⟩ := jok i H2 ρ3 S2 e2 R2 so
        refine .inl ⟨j2 (by omega), ?_⟩
        have hD0 : H D = none := by
          cases z : H D with
          | none => rfl
          | some o =>
            obtain ⟨o', z'⟩ := e1.dom D o z
            rw [hD] at z'; cases z'
        have ef : Ext H ρ H2 (ρ3 ++ [D]) := by
          have e12 := e1.trans e2
          obtain ⟨mo, em, nm⟩ := e12.pre
          exact ⟨⟨mo ++ [D], by rw [em, List.append_assoc], fun b hb => by
            rcases List.mem_append.mp hb with z | z
            · exact nm b z
            · rw [List.mem_singleton.mp z]; exact hD0⟩, e12.keep, e12.dom, e12.tup, e12.frz⟩
        refine a H2 (ρ3 ++ [D]) ef ?_ _ (.ref ?_)
        · exact rsMore R2 nD ⟨vac, hDv, rdsMore [D] rac⟩
        · exact RS.new' R2
      · rw [if_neg so] at hl; cases hl
end
end DL

set_option Elab.async false
set_option linter.all false
set_option maxRecDepth 100000
set_option maxHeartbeats 1000000
/-! The layer's operations: numbers, texts, lists, tuples. -/
namespace DL
open PySem PySem.Spec L2
open PyProof.Rows hiding St
section
variable {K : PySem.W.Frag} {cls : Nat → Addr} {W : WX} {X : Cx}

/-- by the rule of one operation, a rule of the layer's -/
theorem OpR.imp {f : Value → Value → Sem Value} {r r' : R2} (h : OpR X f r) (k : ∀ x y H Q, r' x y H Q → r x y H Q) : OpR X f r' := fun pins s σ H x y v u Q I rx ry q => h pins s σ H x y v u Q I rx ry (k _ _ _ _ q)

def pAdd : P2
  | .int i, .int j, S => some (.int (i + j), S)
  | .str x, .str y, S => if x.length + y.length ≤ sizeLine then some (.str (x ++ y), S) else none
  | .tup a, .tup b, S => if a.length + b.length ≤ sizeLine then some (.tup (a ++ b), S) else none
  | .ref r, .ref q, S => match S[r]?, S[q]? with
    | some (.lst a), some (.lst b) => if a.length + b.length ≤ sizeLine then some (.ref S.length, S ++ [.lst (a ++ b)]) else none
    | _, _ => none
  | _, _, _ => none
theorem RDs.nil_of {H : Hp} {ρ : List Addr} {vs : List V} {ds : List D} (h : RDs K H ρ vs ds) (e : vs = []) : ds = [] := by
  subst e; cases h; rfl
theorem op_pAdd : OpR X (binaryOp .Add) (upO2 X.K cls pAdd) := by
  intro pins s σ H x y v u Q I rx ry q
  obtain ⟨dx, dy, S, ρ, d, S', R, r1, r2, hg, q⟩ := q
  cases r1 with
  | non => cases r2 <;> cases hg
  | bl _ => cases r2 <;> cases hg
  | fro _ _ => cases r2 <;> cases hg
  | int i =>
    cases r2 with
    | int j =>
      cases hg
      exact op_add pins s σ H _ _ v u Q I rx ry ⟨i, j, rfl, rfl, q H ρ _ (Ext.refl _ _) R (.int _)⟩
    | _ => cases hg
  | str a =>
    cases r2 with
    | str b =>
      have hg' : (if a.length + b.length ≤ sizeLine then some (D.str (a ++ b), S) else none) = some (d, S') := hg
      by_cases hl : a.length + b.length ≤ sizeLine
      · rw [if_pos hl] at hg'; cases hg'
        exact op_add_str pins s σ H _ _ v u Q I rx ry ⟨a, b, rfl, rfl, hl, q H ρ _ (Ext.refl _ _) R (.str _)⟩
      · rw [if_neg hl] at hg'; cases hg'
    | _ => cases hg
  | tup h1 t1 =>
    rename_i a vs l
    cases r2 with
    | tup h2 t2 =>
      rename_i b ws m
      have hg' : (if l.length + m.length ≤ sizeLine then some (D.tup (l ++ m), S) else none) = some (d, S') := hg
      by_cases hl : l.length + m.length ≤ sizeLine
      · rw [if_pos hl] at hg'; cases hg'
        refine op_catA pins s σ H _ _ v u Q I rx ry ⟨a, b, vs, ws, rfl, rfl, h1, h2, by rw [t1.length, t2.length]; exact hl, fun e => ?_, fun _ e => ?_, fun _ _ p hp => ?_⟩
        · have := RDs.nil_of t1 e; subst this
          exact q H ρ _ (Ext.refl _ _) R (.tup h2 t2)
        · have := RDs.nil_of t2 e; subst this
          exact q H ρ _ (Ext.refl _ _) R (.tup h1 (by rw [List.append_nil]; exact t1))
        · exact q _ ρ _ (Ext.side hp) (R.side hp) (.tup (SqT.of upd_same) (RDs.ext (Ext.side hp) (RDs.append t1 t2)))
      · rw [if_neg hl] at hg'; cases hg'
    | _ => cases hg
  | ref h1 =>
    rename_i a r
    cases r2 with
    | ref h2 =>
      rename_i b w'
      have hg' : (match S[r]?, S[w']? with
        | some (.lst a), some (.lst b) => if a.length + b.length ≤ sizeLine then some (D.ref S.length, S ++ [.lst (a ++ b)]) else none
        | _, _ => none) = some (d, S') := hg
      cases e1 : S[r]? with
      | none => simp only [e1] at hg'; cases hg'
      | some o1 =>
        cases e2 : S[w']? with
        | none => simp only [e1, e2] at hg'; cases o1 <;> cases hg'
        | some o2 =>
          simp only [e1, e2] at hg'
          cases o1 with
          | lst l =>
            cases o2 with
            | lst m =>
              dsimp only at hg'
              by_cases hl : l.length + m.length ≤ sizeLine
              · rw [if_pos hl] at hg'; cases hg'
                obtain ⟨vs, hv, t1⟩ := R.lst h1 e1
                obtain ⟨ws, hw, t2⟩ := R.lst h2 e2
                refine op_cat pins s σ H _ _ v u Q I rx ry ⟨a, b, vs, ws, rfl, rfl, hv, hw, by rw [t1.length, t2.length]; exact hl, fun p hp => ?_⟩
                exact q _ (ρ ++ [p]) _ (Ext.new R hp) (R.new hp ⟨_, upd_same, RDs.ext (Ext.new R hp) (RDs.append t1 t2)⟩) (.ref (RS.new' R))
              · rw [if_neg hl] at hg'; cases hg'
            | _ => cases hg'
          | _ => cases hg'
    | _ => cases hg
/-- ints alone -/
def pInt (C : Int → Int → Prop) [∀ i j, Decidable (C i j)] (g : Int → Int → D) : P2
  | .int i, .int j, S => if C i j then some (g i j, S) else none
  | _, _, _ => none
theorem op_pInt {f : Value → Value → Sem Value} {C : Int → Int → Prop} [∀ i j, Decidable (C i j)] {gV : Int → Int → V} {g : Int → Int → D} (h : OpR X f (rI C gV)) (hr : ∀ H ρ i j, RD X.K H ρ (gV i j) (g i j)) : OpR X f (upO2 X.K cls (pInt C g)) := by
  intro pins s σ H x y v u Q I rx ry q
  obtain ⟨dx, dy, S, ρ, d, S', R, r1, r2, hg, q⟩ := q
  cases r1 with
  | int i =>
    cases r2 with
    | int j =>
      have hg' : (if C i j then some (g i j, S) else none) = some (d, S') := hg
      by_cases hc : C i j
      · rw [if_pos hc] at hg'; cases hg'
        exact h pins s σ H _ _ v u Q I rx ry ⟨i, j, rfl, rfl, hc, q H ρ _ (Ext.refl _ _) R (hr _ _ _ _)⟩
      · rw [if_neg hc] at hg'; cases hg'
    | _ => cases hg
  | _ => cases r2 <;> cases hg
def pInt0 (g : Int → Int → D) : P2
  | .int i, .int j, S => some (g i j, S)
  | _, _, _ => none
theorem op_pInt0 {f : Value → Value → Sem Value} {gV : Int → Int → V} {g : Int → Int → D} (h : OpR X f (rI0 gV)) (hr : ∀ H ρ i j, RD X.K H ρ (gV i j) (g i j)) : OpR X f (upO2 X.K cls (pInt0 g)) := by
  intro pins s σ H x y v u Q I rx ry q
  obtain ⟨dx, dy, S, ρ, d, S', R, r1, r2, hg, q⟩ := q
  cases r1 with
  | int i =>
    cases r2 with
    | int j =>
      cases hg
      exact h pins s σ H _ _ v u Q I rx ry ⟨i, j, rfl, rfl, q H ρ _ (Ext.refl _ _) R (hr _ _ _ _)⟩
    | _ => cases hg
  | _ => cases r2 <;> cases hg
abbrev pSub : P2 := pInt0 fun i j => .int (i - j)
theorem op_pSub : OpR X (binaryOp .Sub) (upO2 X.K cls pSub) := op_pInt0 op_sub fun _ _ _ _ => .int _
instance : ∀ i j, Decidable (CMul i j) := fun i j => inferInstanceAs (Decidable (_ ∨ _))
instance : ∀ i j, Decidable (CDivW i j) := fun i j => inferInstanceAs (Decidable (_ ∧ _))
instance : ∀ i j, Decidable (CPow i j) := fun i j => inferInstanceAs (Decidable (_ ∧ _))
abbrev pFDiv : P2 := pInt CDivW fun i j => .int (i / j)
theorem op_pFDiv : OpR X (binaryOp .FloorDiv) (upO2 X.K cls pFDiv) := op_pInt op_fdivW fun _ _ _ _ => .int _
abbrev pMod : P2 := pInt (fun _ j => 0 < j) fun i j => .int (i % j)
theorem op_pMod : OpR X (binaryOp .Mod) (upO2 X.K cls pMod) := op_pInt op_mod fun _ _ _ _ => .int _
abbrev pPow : P2 := pInt CPow fun i j => .int (i ^ j.toNat)
theorem op_pPow : OpR X (binaryOp .Pow) (upO2 X.K cls pPow) := op_pInt op_pow fun _ _ _ _ => .int _
def repS (z : Str) (k : Int) : Str := ⟨(List.replicate k.toNat z.cps).foldl (· ++ ·) #[]⟩
theorem repS_len (z : Str) (k : Int) : (repS z k).length = k.toNat * z.length := by
  have go : ∀ (n : Nat) (acc : Array Nat), ((List.replicate n z.cps).foldl (· ++ ·) acc).size = acc.size + n * z.cps.size := by
    intro n
    induction n with
    | zero => intro acc; simp
    | succ n ih =>
      intro acc
      rw [List.replicate_succ, List.foldl_cons, ih, Array.size_append, Nat.succ_mul]
      omega
  have := go k.toNat #[]
  simpa [repS, Str.length] using this
def pMul : P2
  | .int i, .int j, S => if CMul i j then some (.int (i * j), S) else none
  | .str z, .int k, S => if 2 ≤ k ∧ k ≤ 1000 ∧ 1 ≤ z.length ∧ z.length ≤ 1000 then some (.str (repS z k), S) else none
  | .tup l, .int k, S => if l ≠ [] ∧ 2 ≤ k ∧ k ≤ 1000 ∧ l.length ≤ 1000 then some (.tup (List.replicate k.toNat l).flatten, S) else none
  | .ref r, .int k, S => match S[r]? with
    | some (.lst l) => if -(2 ^ 63) ≤ k ∧ k < 2 ^ 63 ∧ l.length * k.toNat ≤ sizeLine then some (.ref S.length, S ++ [.lst (List.replicate k.toNat l).flatten]) else none
    | _ => none
  | _, _, _ => none
theorem op_pMul : OpR X (binaryOp .Mult) (upO2 X.K cls pMul) := by
  intro pins s σ H x y v u Q I rx ry q
  obtain ⟨dx, dy, S, ρ, d, S', R, r1, r2, hg, q⟩ := q
  cases r1 with
  | non => cases r2 <;> cases hg
  | bl _ => cases r2 <;> cases hg
  | fro _ _ => cases r2 <;> cases hg
  | str z =>
    cases r2 with
    | int k =>
      have hg' : (if 2 ≤ k ∧ k ≤ 1000 ∧ 1 ≤ z.length ∧ z.length ≤ 1000 then some (D.str (repS z k), S) else none) = some (d, S') := hg
      by_cases hc : 2 ≤ k ∧ k ≤ 1000 ∧ 1 ≤ z.length ∧ z.length ≤ 1000
      · rw [if_pos hc] at hg'; cases hg'
        obtain ⟨t, rfl⟩ := rx
        obtain ⟨t', rfl⟩ := ry
        obtain ⟨h1, h2, h3, h4⟩ := hc
        have hm : z.length * k.toNat ≤ 1000 * 1000 := Nat.mul_le_mul h4 (by omega)
        refine PySem.P.mul_str (by rw [decide_eq_false (by omega), decide_eq_false (by omega)]; rfl) (fun _ _ => ?_) (fun _ _ => ?_) ?_
        · have : (1000 : Int) ≤ (2 ^ 63 - 1) / k := (Int.le_ediv_iff_mul_le (by omega)).mpr (by omega)
          omega
        · unfold Builtin.Str.tooLong
          rw [sizeLine_eq]
          exact decide_eq_false (by omega)
        · rw [if_neg (by omega), if_neg (by simp; omega)]
          refine ⟨?_, .str (repS z k), H, I.tok _, ⟨_, rfl⟩, q H ρ _ (Ext.refl _ _) R (.str _)⟩
          have e := repS_len z k
          show (repS z k).length ≤ sizeLine
          rw [sizeLine_eq, e, Nat.mul_comm]
          omega
      · rw [if_neg hc] at hg'; cases hg'
    | _ => cases hg
  | int i =>
    cases r2 with
    | int j =>
      have hg' : (if CMul i j then some (D.int (i * j), S) else none) = some (d, S') := hg
      by_cases hc : CMul i j
      · rw [if_pos hc] at hg'; cases hg'
        exact op_mul pins s σ H _ _ v u Q I rx ry ⟨i, j, rfl, rfl, hc, q H ρ _ (Ext.refl _ _) R (.int _)⟩
      · rw [if_neg hc] at hg'; cases hg'
    | _ => cases hg
  | tup h1 t1 =>
    rename_i a vs l
    cases r2 with
    | int k =>
      have hg' : (if l ≠ [] ∧ 2 ≤ k ∧ k ≤ 1000 ∧ l.length ≤ 1000 then some (D.tup (List.replicate k.toNat l).flatten, S) else none) = some (d, S') := hg
      by_cases hc : l ≠ [] ∧ 2 ≤ k ∧ k ≤ 1000 ∧ l.length ≤ 1000
      · rw [if_pos hc] at hg'; cases hg'
        refine op_repT pins s σ H _ _ v u Q I rx ry ⟨a, k, vs, rfl, rfl, h1, fun e => hc.1 (RDs.nil_of t1 e), hc.2.1, hc.2.2.1, by rw [t1.length]; exact hc.2.2.2, fun p hp => ?_⟩
        exact q _ ρ _ (Ext.side hp) (R.side hp) (.tup (SqT.of upd_same) (RDs.ext (Ext.side hp) (RDs.replicate t1 _)))
      · rw [if_neg hc] at hg'; cases hg'
    | _ => cases hg
  | ref h1 =>
    rename_i a r
    cases r2 with
    | int k =>
      have hg' : (match S[r]? with
        | some (.lst l) => if -(2 ^ 63) ≤ k ∧ k < 2 ^ 63 ∧ l.length * k.toNat ≤ sizeLine then some (D.ref S.length, S ++ [.lst (List.replicate k.toNat l).flatten]) else none
        | _ => none) = some (d, S') := hg
      cases e1 : S[r]? with
      | none => simp only [e1] at hg'; cases hg'
      | some o1 =>
        simp only [e1] at hg'
        cases o1 with
        | lst l =>
          dsimp only at hg'
          by_cases hc : -(2 ^ 63) ≤ k ∧ k < 2 ^ 63 ∧ l.length * k.toNat ≤ sizeLine
          · rw [if_pos hc] at hg'; cases hg'
            obtain ⟨vs, hv, t1⟩ := R.lst h1 e1
            refine op_rep pins s σ H _ _ v u Q I rx ry ⟨a, k, vs, rfl, rfl, hv, hc.1, hc.2.1, by rw [t1.length]; exact hc.2.2, fun p hp => ?_⟩
            exact q _ (ρ ++ [p]) _ (Ext.new R hp) (R.new hp ⟨_, upd_same, RDs.ext (Ext.new R hp) (RDs.replicate t1 _)⟩) (.ref (RS.new' R))
          · rw [if_neg hc] at hg'; cases hg'
        | _ => cases hg'
    | _ => cases hg
def pNeg : P1
  | .int i, S => some (.int (-i), S)
  | _, _ => none
theorem un_pNeg : UnR X (unaryOp .USub) (upO1 X.K cls pNeg) := by
  intro pins s σ H x v Q I rx q
  obtain ⟨dx, S, ρ, d, S', R, r1, hg, q⟩ := q
  cases r1 with
  | int i => cases hg; exact un_neg pins s σ H _ v Q I rx ⟨i, rfl, q H ρ _ (Ext.refl _ _) R (.int _)⟩
  | _ => cases hg

/-! ### order -/
def pOrd (gi : Int → Int → Bool) (gs : List Nat → List Nat → Bool) : P2
  | .int i, .int j, S => some (.bl (gi i j), S)
  | .str x, .str y, S => some (.bl (gs x.cps.toList y.cps.toList), S)
  | _, _, _ => none
theorem op_pOrd {f : Value → Value → Sem Value} {gi : Int → Int → Bool} {gs : List Nat → List Nat → Bool} (h1 : OpR X f (rI0 fun i j => .bl (gi i j))) (h2 : OpR X f (fun x y H Q => ∃ i j, x = .str i ∧ y = .str j ∧ Q (.bl (gs i.cps.toList j.cps.toList)) H)) : OpR X f (upO2 X.K cls (pOrd gi gs)) := by
  intro pins s σ H x y v u Q I rx ry q
  obtain ⟨dx, dy, S, ρ, d, S', R, r1, r2, hg, q⟩ := q
  cases r1 with
  | int i =>
    cases r2 with
    | int j => cases hg; exact h1 pins s σ H _ _ v u Q I rx ry ⟨i, j, rfl, rfl, q H ρ _ (Ext.refl _ _) R (.bl _)⟩
    | _ => cases hg
  | str i =>
    cases r2 with
    | str j => cases hg; exact h2 pins s σ H _ _ v u Q I rx ry ⟨i, j, rfl, rfl, q H ρ _ (Ext.refl _ _) R (.bl _)⟩
    | _ => cases hg
  | _ => cases r2 <;> cases hg
abbrev pLt : P2 := pOrd (fun i j => decide (i < j)) fun a b => decide (a < b)
abbrev pLe : P2 := pOrd (fun i j => decide (i ≤ j)) fun a b => !decide (b < a)
abbrev pGt : P2 := pOrd (fun i j => decide (j < i)) fun a b => decide (b < a)
abbrev pGe : P2 := pOrd (fun i j => decide (j ≤ i)) fun a b => !decide (a < b)
theorem op_pLt : OpR X (compareOp .Lt) (upO2 X.K cls pLt) := op_pOrd op_lt op_lt_str
theorem op_pLe : OpR X (compareOp .LtE) (upO2 X.K cls pLe) := op_pOrd op_le op_le_str
theorem op_pGt : OpR X (compareOp .Gt) (upO2 X.K cls pGt) := op_pOrd op_gt op_gt_str
theorem op_pGe : OpR X (compareOp .GtE) (upO2 X.K cls pGe) := op_pOrd op_ge op_ge_str
def pIsN : P2
  | .non, .non, S => some (.bl true, S)
  | _, .non, S => some (.bl false, S)
  | .bl a, .bl b, S => some (.bl (decide (a = b)), S)
  | _, _, _ => none
def pNotN : P2
  | .non, .non, S => some (.bl false, S)
  | _, .non, S => some (.bl true, S)
  | .bl a, .bl b, S => some (.bl (!decide (a = b)), S)
  | _, _, _ => none
theorem op_pIsN : OpR X (compareOp .Is) (upO2 X.K cls pIsN) := by
  intro pins s σ H x y v u Q I rx ry q
  obtain ⟨dx, dy, S, ρ, d, S', R, r1, r2, hg, q⟩ := q
  cases r2 with
  | non =>
    refine op_isN pins s σ H _ _ v u Q I rx ry ⟨rfl, ?_⟩
    cases r1 <;> cases hg <;> exact q H ρ _ (Ext.refl _ _) R (.bl _)
  | bl b =>
    cases r1 with
    | bl a => cases hg; exact op_isBl pins s σ H _ _ v u Q I rx ry ⟨a, b, rfl, rfl, q H ρ _ (Ext.refl _ _) R (.bl _)⟩
    | _ => cases hg
  | _ => cases r1 <;> cases hg
theorem op_pNotN : OpR X (compareOp .IsNot) (upO2 X.K cls pNotN) := by
  intro pins s σ H x y v u Q I rx ry q
  obtain ⟨dx, dy, S, ρ, d, S', R, r1, r2, hg, q⟩ := q
  cases r2 with
  | non =>
    refine op_notN pins s σ H _ _ v u Q I rx ry ⟨rfl, ?_⟩
    cases r1 <;> cases hg <;> exact q H ρ _ (Ext.refl _ _) R (.bl _)
  | bl b =>
    cases r1 with
    | bl a => cases hg; exact op_notBl pins s σ H _ _ v u Q I rx ry ⟨a, b, rfl, rfl, q H ρ _ (Ext.refl _ _) R (.bl _)⟩
    | _ => cases hg
  | _ => cases r1 <;> cases hg

/-! ### items, slices -/
def seqOf (d : D) (S : Store) : Option (List D) := match d with
  | .tup l => some l
  | .fro l => some l
  | .ref r => (match S[r]? with | some (.lst l) => some l | _ => none)
  | _ => none
/-- a list or a tuple is read -/
theorem seqOf_ok {H : Hp} {ρ : List Addr} {S : Store} {v : V} {d : D} {l : List D} (R : RS K cls H ρ S) (r : RD K H ρ v d) (h : seqOf d S = some l) : ∃ a vs, v = .ref a ∧ (SqL K H a vs ∨ SqT K H a vs) ∧ RDs K H ρ vs l := by
  cases r with
  | tup hs rs => cases h; exact ⟨_, _, rfl, .inr hs, rs⟩
  | fro hs rs => cases h; exact ⟨_, _, rfl, .inl hs.sq, rs⟩
  | ref hr =>
    rename_i a r
    have h' : (match S[r]? with | some (.lst l) => some l | _ => none) = some l := h
    cases e : S[r]? with
    | none => simp only [e] at h'; cases h'
    | some o =>
      simp only [e] at h'
      cases o with
      | lst m => cases h'; obtain ⟨vs, hv, t⟩ := R.lst hr e; exact ⟨a, vs, rfl, .inl (SqL.of hv), t⟩
      | _ => cases h'
  | _ => cases h
def pIx : P2
  | .str z, .int i, S => if z.length ≤ sizeLine then (match atI z.cps.toList i with | some c => some (.str ⟨#[c]⟩, S) | none => none) else none
  | d, .int i, S => match seqOf d S with | some l => (match atI l i with | some x => some (x, S) | none => none) | none => none
  | _, _, _ => none
theorem atI_rd {H : Hp} {ρ : List Addr} {vs : List V} {l : List D} {i : Int} {d : D} (h : RDs K H ρ vs l) (e : atI l i = some d) : ∃ v, atI vs i = some v ∧ RD K H ρ v d := by
  unfold atI at e ⊢
  rw [h.length]
  cases q : ixN l.length i with
  | none => rw [q] at e; cases e
  | some j =>
    rw [q] at e
    exact RDs.get' h e
theorem ix_pIx : IxR X (upO2 X.K cls pIx) := by
  intro value slice pins s σ H x y v u Q I rx ry q hs
  obtain ⟨dx, dy, S, ρ, d, S', R, r1, r2, hg, q⟩ := q
  cases r2 with
  | int i =>
    by_cases hz : ∃ z, dx = .str z
    · obtain ⟨z, rfl⟩ := hz
      cases r1
      have hg' : (if z.length ≤ sizeLine then (match atI z.cps.toList i with | some c => some (D.str ⟨#[c]⟩, S) | none => none) else none) = some (d, S') := hg
      by_cases hl : z.length ≤ sizeLine
      · rw [if_pos hl] at hg'
        cases e : atI z.cps.toList i with
        | none => rw [e] at hg'; cases hg'
        | some c =>
          rw [e] at hg'; cases hg'
          exact ix_str value slice pins s σ H _ _ v u Q I rx ry ⟨z, i, c, rfl, rfl, hl, e, q H ρ _ (Ext.refl _ _) R (.str _)⟩ hs
      · rw [if_neg hl] at hg'; cases hg'
    · have hg' : (match seqOf dx S with | some l => (match atI l i with | some x => some (x, S) | none => none) | none => none) = some (d, S') := by
        cases dx with
        | str z => exact absurd ⟨z, rfl⟩ hz
        | _ => exact hg
      cases e : seqOf dx S with
      | none => rw [e] at hg'; cases hg'
      | some l =>
        rw [e] at hg'
        dsimp only at hg'
        obtain ⟨a, vs, rfl, hsq, rs⟩ := seqOf_ok R r1 e
        cases e2 : atI l i with
        | none => rw [e2] at hg'; cases hg'
        | some z =>
          rw [e2] at hg'; cases hg'
          obtain ⟨w', h1, h2⟩ := atI_rd rs e2
          rcases hsq with hsq | hsq
          · exact ix_list value slice pins s σ H _ _ v u Q I rx ry ⟨a, vs, i, w', rfl, rfl, hsq, h1, q H ρ _ (Ext.refl _ _) R h2⟩ hs
          · exact ix_tup value slice pins s σ H _ _ v u Q I rx ry ⟨a, vs, i, w', rfl, rfl, hsq, h1, q H ρ _ (Ext.refl _ _) R h2⟩ hs
  | _ => cases r1 <;> cases hg
theorem de_ix {a b : Expr} {fa fb : DE} {pos : Pos} (ha : PE X a (upE X.K cls W fa)) (hb : PE X b (upE X.K cls W fb)) (hs : PlainIx b) : PE X (.Subscript a b pos) (upE X.K cls W (eBin pIx fa fb)) :=
  PE.weak (pe_ix ix_pIx ha hb hs) fun _ _ _ h => tOp_up h
def setL : D → D → D → Store → Option Store
  | .ref r, .int k, v, S => match S[r]? with
    | some (.lst l) => (match ixN l.length k with | some j => some (S.set r (.lst (l.set j v))) | none => none)
    | _ => none
  | _, _, _, _ => none
theorem set_setL : PSet X (upPut X.K cls setL) := by
  intro pins s σ H o i v ov iv u Q I ro ri rv q
  obtain ⟨od, id, vd, S, ρ, S', R, r1, r2, r3, hg, q⟩ := q
  cases r1 with
  | ref hr =>
    rename_i a r
    cases r2 with
    | int k =>
      have hg' : (match S[r]? with
        | some (.lst l) => (match ixN l.length k with | some j => some (S.set r (.lst (l.set j vd))) | none => none)
        | _ => none) = some S' := hg
      cases e : S[r]? with
      | none => simp only [e] at hg'; cases hg'
      | some o =>
        simp only [e] at hg'
        cases o with
        | lst l =>
          dsimp only at hg'
          obtain ⟨vs, hv, t⟩ := R.lst hr e
          cases e2 : ixN l.length k with
          | none => rw [e2] at hg'; cases hg'
          | some j =>
            rw [e2] at hg'; cases hg'
            refine set_list pins s σ H _ _ v ov iv u Q I ro ri rv ⟨a, vs, k, j, rfl, rfl, hv, by rw [t.length]; exact e2, ?_⟩
            have ep : Ext H ρ (upd H a (.lst (vs.set j v))) ρ := Ext.put R (List.mem_of_getElem? hr) hv (fun _ _ z => nomatch z)
            exact q _ ρ ep (R.put hr hv (fun _ _ z => nomatch z) ⟨_, upd_same, RDs.set (RD.ext ep r3) j (RDs.ext ep t)⟩)
        | _ => cases hg'
    | _ => cases hg
  | _ => cases hg
/-- xs[lo:hi] -/
def cutD (xs : List D) (lo hi : Option Int) : List D := (xs.drop (HT.sIx xs.length 0 lo)).take (HT.sIx xs.length xs.length hi - HT.sIx xs.length 0 lo)
def pSl (d : D) (lo hi : Option Int) (S : Store) : Option (D × Store) := match d with
  | .str z => if z.length ≤ sizeLine then some (.str (cutS z lo hi), S) else none
  | .tup l => some (.tup (cutD l lo hi), S)
  | .fro l => some (.ref S.length, S ++ [.lst (cutD l lo hi)])
  | .ref r => (match S[r]? with
    | some (.lst l) => some (.ref S.length, S ++ [.lst (cutD l lo hi)])
    | _ => none)
  | _ => none
theorem cut_rd {H : Hp} {ρ : List Addr} {vs : List V} {l : List D} (h : RDs K H ρ vs l) (lo hi : Option Int) : RDs K H ρ (cutV vs lo hi) (cutD l lo hi) := by
  unfold cutV cutD
  rw [h.length]
  exact RDs.take _ (RDs.drop _ h)
abbrev DO := DEnv → M (Option Int)
def oNone : DO := fun _ S => .ok none S
def oSome (f : DE) : DO := fun η S => (f η S).bind fun d S1 => match d with | .int i => .ok (some i) S1 | _ => .bad
def eSl (f : DE) (lo hi : DO) : DE := fun η S => (f η S).bind fun d S1 => (lo η S1).bind fun l S2 => (hi η S2).bind fun h S3 => Opt (pSl d l h S3)
def upO (K : PySem.W.Frag) (cls : Nat → Addr) (W : WX) (f : DO) : TO := fun σ H Q => ∃ η S ρ, Rel K cls σ H η S ρ ∧ After K cls W σ H ρ (f η S) fun o H' _ _ => Q o H'
theorem PO.weak {e : Option Expr} {t t' : TO} (h : PO X e t) (k : ∀ σ H Q, t' σ H Q → t σ H Q) : PO X e t' := ⟨fun pins s σ H Q I q => h.run pins s σ H Q I (k _ _ _ q)⟩
theorem do_none : PO X none (upO X.K cls W oNone) := PO.weak po_none fun σ H Q h => by
  obtain ⟨η, S, ρ, R, a⟩ := h
  exact a H ρ (Ext.refl _ _) R.1
theorem do_some {e : Expr} {fe : DE} (h : PE X e (upE X.K cls W fe)) : PO X (some e) (upO X.K cls W (oSome fe)) := PO.weak (po_some h) fun σ H Q h => by
  obtain ⟨η, S, ρ, R, a⟩ := h
  refine upE_go R a fun d v H1 ρ1 S1 e1 R1 r1 a1 => ?_
  cases r1 with
  | int i => exact ⟨i, rfl, a1 H1 ρ1 (Ext.refl _ _) R1.1⟩
  | _ => exact a1.elim
def upSl (K : PySem.W.Frag) (cls : Nat → Addr) : V → Option Int → Option Int → Hp → VK → Prop := fun x lo hi H Q => ∃ dx S ρ d S', RS K cls H ρ S ∧ RD K H ρ x dx ∧ pSl dx lo hi S = some (d, S') ∧
  ∀ H' ρ' v, Ext H ρ H' ρ' → RS K cls H' ρ' S' → RD K H' ρ' v d → Q v H'
theorem sl_pSl : SlR X (upSl X.K cls) := by
  intro pins s σ H x v vl vu lo hi sl Q I rx hs_ pl pu q
  obtain ⟨dx, S, ρ, d, S', R, r1, hg, q⟩ := q
  cases r1 with
  | str z =>
    have hg' : (if z.length ≤ sizeLine then some (D.str (cutS z lo hi), S) else none) = some (d, S') := hg
    by_cases hl : z.length ≤ sizeLine
    · rw [if_pos hl] at hg'; cases hg'
      exact sl_str pins s σ H _ v vl vu lo hi sl Q I rx hs_ pl pu ⟨z, rfl, hl, q H ρ _ (Ext.refl _ _) R (.str _)⟩
    · rw [if_neg hl] at hg'; cases hg'
  | tup h1 t1 =>
    rename_i a vs l
    cases hg
    refine sl_tupA pins s σ H _ v vl vu lo hi sl Q I rx hs_ pl pu ⟨a, vs, rfl, h1, fun hw => ?_, fun _ p hp => ?_⟩
    · have e : cutD l lo hi = l := by
        unfold cutD
        rw [← t1.length, hw.1, hw.2]
        simp [t1.length]
      rw [e] at q
      exact q H ρ _ (Ext.refl _ _) R (.tup h1 t1)
    · exact q _ ρ _ (Ext.side hp) (R.side hp) (.tup (SqT.of upd_same) (RDs.ext (Ext.side hp) (cut_rd t1 lo hi)))
  | fro hs t =>
    rename_i a vs l
    cases hg
    refine sl_list pins s σ H _ v vl vu lo hi sl Q I rx hs_ pl pu ⟨a, vs, rfl, hs.sq, fun p hp => ?_⟩
    exact q _ (ρ ++ [p]) _ (Ext.new R hp) (R.new hp ⟨_, upd_same, RDs.ext (Ext.new R hp) (cut_rd t lo hi)⟩) (.ref (RS.new' R))
  | ref hr =>
    rename_i a r
    have hg' : (match S[r]? with
      | some (.lst l) => some (D.ref S.length, S ++ [.lst (cutD l lo hi)])
      | _ => none) = some (d, S') := hg
    cases e : S[r]? with
    | none => simp only [e] at hg'; cases hg'
    | some o =>
      simp only [e] at hg'
      have fin : ∀ (l : List D) (vs : List V), SqL X.K H a vs → RDs X.K H ρ vs l → some (D.ref S.length, S ++ [.lst (cutD l lo hi)]) = some (d, S') → ∃ T id, typeLookup (.type T) "__getitem__" = pure (some (.builtin id)) ∧ s.TypeIs v T ∧ wpAny (model X.prog X.w) X.A (getItem v (.ref sl)) (EP X pins σ Q) X.xe s := by
        intro l vs hv t he
        cases he
        refine sl_list pins s σ H _ v vl vu lo hi sl Q I rx hs_ pl pu ⟨a, vs, rfl, hv, fun p hp => ?_⟩
        exact q _ (ρ ++ [p]) _ (Ext.new R hp) (R.new hp ⟨_, upd_same, RDs.ext (Ext.new R hp) (cut_rd t lo hi)⟩) (.ref (RS.new' R))
      cases o with
      | lst l => obtain ⟨vs, hv, t⟩ := R.lst hr e; exact fin l vs (SqL.of hv) t hg'
      | _ => cases hg'
  | _ => cases hg
theorem upO_go {fo : DO} {α : Type} {f : Option Int → Store → Res α} {η : DEnv} {S : Store} {ρ : List Addr} {σ : L2.St} {H : Hp} {P : α → Hp → List Addr → Store → Prop} {Q : Option Int → Hp → Prop}
    (R : Rel K cls σ H η S ρ) (a : After K cls W σ H ρ ((fo η S).bind f) P)
    (k : ∀ b H1 ρ1 S1, Ext H ρ H1 ρ1 → Rel K cls σ H1 η S1 ρ1 → After K cls W σ H1 ρ1 (f b S1) P → Q b H1) : upO K cls W fo σ H Q :=
  ⟨η, S, ρ, R, (After.bind a).mono fun d H1 ρ1 S1 e R1 q => k d H1 ρ1 S1 e ⟨R1, RE.ext e R.2⟩ q⟩
theorem de_sl {e : Expr} {fe : DE} {lo hi : Option Expr} {fl fh : DO} {pos p2 : Pos} (he : PE X e (upE X.K cls W fe)) (hl : PO X lo (upO X.K cls W fl)) (hu : PO X hi (upO X.K cls W fh)) : PE X (.Subscript e (.Slice lo hi none p2) pos) (upE X.K cls W (eSl fe fl fh)) :=
  PE.weak (pe_slice sl_pSl he hl hu) fun σ H Q h => by
    obtain ⟨η, S, ρ, R, a⟩ := h
    refine upE_go R a fun d v H1 ρ1 S1 e1 R1 r1 a1 => ?_
    refine upO_go R1 a1 fun l H2 ρ2 S2 e2 R2 a2 => ?_
    refine upO_go R2 a2 fun h H3 ρ3 S3 e3 R3 a3 => ?_
    obtain ⟨d', S', hg, q⟩ := after_opt a3
    exact ⟨d, S3, ρ3, d', S', R3.1, RD.ext (e2.trans e3) r1, hg, q⟩
end
end DL

set_option Elab.async false
set_option linter.all false
set_option maxRecDepth 100000
set_option maxHeartbeats 1000000
/-! The layer's built-in functions, methods of lists and texts, objects. -/
namespace DL
open PySem PySem.Spec L2
open PyProof.Rows hiding St
section
variable {K : PySem.W.Frag} {cls : Nat → Addr} {W : WX} {X : Cx}

def pLen : PL
  | [.str z], S => if z.length ≤ sizeLine then some (.int z.length, S) else none
  | [.tup l], S => some (.int l.length, S)
  | [.fro l], S => some (.int l.length, S)
  | [.ref r], S => (match S[r]? with
    | some (.lst l) => some (.int l.length, S)
    | some (.dic l) => some (.int l.length, S)
    | _ => none)
  | _, _ => none
theorem RK.length {H : Hp} {ρ : List Addr} : ∀ {vs : List (Key × V)} {ds : List (D × D)}, RK K H ρ vs ds → vs.length = ds.length
  | _, _, .nil => rfl
  | _, _, .cons _ t => congrArg (· + 1) (RK.length t)
theorem call_pLen : CallR X (.builtin "len") (upOL X.K cls pLen) := by
  intro pins s σ H xs us Q I r q
  obtain ⟨ds, S, ρ, d, S', R, rs, hg, q⟩ := q
  cases rs with
  | nil => cases hg
  | cons r1 t =>
    cases t with
    | cons _ _ => cases r1 <;> cases hg
    | nil =>
      cases r1 with
      | str z =>
        have hg' : (if z.length ≤ sizeLine then some (D.int z.length, S) else none) = some (d, S') := hg
        by_cases hl : z.length ≤ sizeLine
        · rw [if_pos hl] at hg'; cases hg'
          exact call_len pins s σ H _ us Q I r ⟨.str z, z.length, rfl, ⟨hl, rfl⟩, q H ρ _ (Ext.refl _ _) R (.int _)⟩
        · rw [if_neg hl] at hg'; cases hg'
      | tup h1 t1 =>
        rename_i a vs l
        cases hg
        exact call_len pins s σ H _ us Q I r ⟨.ref a, vs.length, rfl, .inr ⟨vs, h1, rfl⟩, by rw [t1.length]; exact q H ρ _ (Ext.refl _ _) R (.int _)⟩
      | fro h1 t1 =>
        rename_i a vs l
        cases hg
        exact call_len pins s σ H _ us Q I r ⟨.ref a, vs.length, rfl, .inl ⟨vs, h1.sq, rfl⟩, by rw [t1.length]; exact q H ρ _ (Ext.refl _ _) R (.int _)⟩
      | ref hr =>
        rename_i a r0
        have hg' : (match S[r0]? with
          | some (.lst l) => some (D.int l.length, S)
          | some (.dic l) => some (D.int l.length, S)
          | _ => none) = some (d, S') := hg
        cases e : S[r0]? with
        | none => simp only [e] at hg'; cases hg'
        | some o =>
          simp only [e] at hg'
          cases o with
          | lst l =>
            cases hg'
            obtain ⟨vs, hv, t⟩ := R.lst hr e
            exact call_len pins s σ H _ us Q I r ⟨.ref a, vs.length, rfl, .inl ⟨vs, SqL.of hv, rfl⟩, by rw [t.length]; exact q H ρ _ (Ext.refl _ _) R (.int _)⟩
          | dic l =>
            cases hg'
            obtain ⟨a', e', kk, hv, t⟩ := R.ob r0 _ e
            rw [hr] at e'; cases e'
            exact call_lenD pins s σ H _ us Q I r ⟨a, kk, rfl, hv, by rw [t.length]; exact q H ρ _ (Ext.refl _ _) R (.int _)⟩
          | ins _ _ => cases hg'
      | _ => cases hg
def pAbs : PL
  | [.int i], S => some (.int (if i < 0 then -i else i), S)
  | _, _ => none
theorem call_pAbs : CallR X (.builtin "abs") (upOL X.K cls pAbs) := by
  intro pins s σ H xs us Q I r q
  obtain ⟨ds, S, ρ, d, S', R, rs, hg, q⟩ := q
  cases rs with
  | nil => cases hg
  | cons r1 t =>
    cases t with
    | cons _ _ => cases r1 <;> cases hg
    | nil =>
      cases r1 with
      | int i => cases hg; exact call_abs pins s σ H _ us Q I r ⟨i, rfl, q H ρ _ (Ext.refl _ _) R (.int _)⟩
      | _ => cases hg
def pInt1 : PL
  | [.int i], S => some (.int i, S)
  | [.bl k], S => some (.int (if k then 1 else 0), S)
  | _, _ => none
theorem call_pInt1 : CallR X (.type "int") (upOL X.K cls pInt1) := by
  intro pins s σ H xs us Q I r q
  obtain ⟨ds, S, ρ, d, S', R, rs, hg, q⟩ := q
  cases rs with
  | nil => cases hg
  | cons r1 t =>
    cases t with
    | cons _ _ => cases r1 <;> cases hg
    | nil =>
      cases r1 with
      | int i => cases hg; exact call_int1 pins s σ H _ us Q I r (.inl ⟨i, rfl, q H ρ _ (Ext.refl _ _) R (.int _)⟩)
      | bl k => cases hg; exact call_int1 pins s σ H _ us Q I r (.inr ⟨k, rfl, q H ρ _ (Ext.refl _ _) R (.int _)⟩)
      | _ => cases hg
def pStr1 : PL
  | [.int i], S => if i.natAbs.log2 < 1920 then some (.str (toString i : String), S) else none
  | _, _ => none
theorem call_pStr1 : CallR X (.type "str") (upOL X.K cls pStr1) := by
  intro pins s σ H xs us Q I r q
  obtain ⟨ds, S, ρ, d, S', R, rs, hg, q⟩ := q
  cases rs with
  | nil => cases hg
  | cons r1 t =>
    cases t with
    | cons _ _ => cases r1 <;> cases hg
    | nil =>
      cases r1 with
      | int i =>
        have hg' : (if i.natAbs.log2 < 1920 then some (D.str (toString i : String), S) else none) = some (d, S') := hg
        by_cases hc : i.natAbs.log2 < 1920
        · rw [if_pos hc] at hg'; cases hg'
          exact call_str_int pins s σ H _ us Q I r ⟨i, rfl, hc, q H ρ _ (Ext.refl _ _) R (.str _)⟩
        · rw [if_neg hc] at hg'; cases hg'
      | _ => cases hg
def pMin2 : PL
  | [.int i, .int j], S => some (.int (if j < i then j else i), S)
  | _, _ => none
def pMax2 : PL
  | [.int i, .int j], S => some (.int (if j > i then j else i), S)
  | _, _ => none
theorem call_pMin2 (hc : X.calm = true) : CallR X (.builtin "min") (upOL X.K cls pMin2) := by
  intro pins s σ H xs us Q I r q
  obtain ⟨ds, S, ρ, d, S', R, rs, hg, q⟩ := q
  cases rs with
  | nil => cases hg
  | cons r1 t =>
    cases t with
    | nil => cases r1 <;> cases hg
    | cons r2 t =>
      cases t with
      | cons _ _ => cases r1 <;> cases r2 <;> cases hg
      | nil =>
        cases r1 with
        | int i =>
          cases r2 with
          | int j => cases hg; exact call_min2 hc pins s σ H _ us Q I r ⟨i, j, rfl, q H ρ _ (Ext.refl _ _) R (.int _)⟩
          | _ => cases hg
        | _ => cases r2 <;> cases hg
theorem call_pMax2 (hc : X.calm = true) : CallR X (.builtin "max") (upOL X.K cls pMax2) := by
  intro pins s σ H xs us Q I r q
  obtain ⟨ds, S, ρ, d, S', R, rs, hg, q⟩ := q
  cases rs with
  | nil => cases hg
  | cons r1 t =>
    cases t with
    | nil => cases r1 <;> cases hg
    | cons r2 t =>
      cases t with
      | cons _ _ => cases r1 <;> cases r2 <;> cases hg
      | nil =>
        cases r1 with
        | int i =>
          cases r2 with
          | int j => cases hg; exact call_max2 hc pins s σ H _ us Q I r ⟨i, j, rfl, q H ρ _ (Ext.refl _ _) R (.int _)⟩
          | _ => cases hg
        | _ => cases r2 <;> cases hg
/-- list(x), tuple(x) -/
def pListOf : PL
  | [.str z], S => if z.length ≤ sizeLine then some (.ref S.length, S ++ [.lst (z.cps.toList.map fun c => .str ⟨#[c]⟩)]) else none
  | [d], S => (match seqOf d S with | some l => some (.ref S.length, S ++ [.lst l]) | none => none)
  | _, _ => none
theorem vals_of : ∀ {xs : List V} {us : List Value}, xs.length = us.length → (∀ (i : Nat) (v : V) (u : Value), xs[i]? = some v → us[i]? = some u → RelV v u) → Vals xs us
  | [], [], _, _ => .nil
  | x :: xs, u :: us, h, k => .cons (k 0 x u rfl rfl) (vals_of (by simpa using h) fun i v w h1 h2 => k (i + 1) v w (by simpa using h1) (by simpa using h2))
theorem call_list_strR (hc : X.calm = true) : CallR X (.type "list") (fun xs H Q => ∃ z : Str, xs = [.str z] ∧ z.length ≤ sizeLine ∧ ∀ p, H p = none → Q (.ref p) (upd H p (.lst (z.cps.toList.map fun c => .str ⟨#[c]⟩)))) := by
  intro pins s σ H xs us Q I r h
  obtain ⟨z, rfl, hz, q⟩ := h
  obtain ⟨u, rfl, t, rfl⟩ := vals1 r
  refine PySem.call_list_str (I.ok.hd hc) z t (fun h' tk acc' c' hk hS ha => ?_) hz
  have hp : H s.heap.objs.size = none := I.hok.fresh (Nat.le_refl _)
  have vl : Vals (z.cps.toList.map fun c => V.str ⟨#[c]⟩) acc'.toList := by
    refine vals_of (by simp [ha.1]) fun i v u hv hu => ?_
    obtain ⟨c, t', hcq, rfl⟩ := ha.2 i u (by simpa using hu)
    rw [List.getElem?_map, Array.getElem?_toList, hcq] at hv
    cases hv
    exact ⟨t', rfl⟩
  refine ⟨.ref s.heap.objs.size, upd H s.heap.objs.size (.lst (z.cps.toList.map fun c => V.str ⟨#[c]⟩)), I.laid (t' := tk) hk (Nat.le_refl _) ⟨?_, acc'.toList, c', vl, ?_⟩, rfl, q _ hp⟩
  · rw [List.length_map, Array.length_toList]; exact hz
  · rw [Array.toArray_toList]; exact hS
theorem call_pListOf (hc : X.calm = true) : CallR X (.type "list") (upOL X.K cls pListOf) := by
  intro pins s σ H xs us Q I r q
  obtain ⟨ds, S, ρ, d, S', R, rs, hg, q⟩ := q
  cases rs with
  | nil => cases hg
  | cons r1 t =>
    rename_i v0 d0 vs0 ds0
    cases t with
    | cons _ _ => cases r1 <;> cases hg
    | nil =>
      by_cases hz : ∃ z, d0 = .str z
      · obtain ⟨z, rfl⟩ := hz
        cases r1
        have hg' : (if z.length ≤ sizeLine then some (D.ref S.length, S ++ [.lst (z.cps.toList.map fun c => .str ⟨#[c]⟩)]) else none) = some (d, S') := hg
        by_cases hl : z.length ≤ sizeLine
        · rw [if_pos hl] at hg'; cases hg'
          refine call_list_strR hc pins s σ H _ us Q I r ⟨z, rfl, hl, fun p hp => ?_⟩
          refine q _ (ρ ++ [p]) _ (Ext.new R hp) (R.new hp ⟨_, upd_same, ?_⟩) (.ref (RS.new' R))
          have := RDs.ofStrs (K := X.K) (H := upd H p (.lst (z.cps.toList.map fun c => V.str ⟨#[c]⟩))) (ρ := ρ ++ [p]) (z.cps.toList.map fun c => (⟨#[c]⟩ : Str))
          rw [List.map_map, List.map_map] at this
          exact this
        · rw [if_neg hl] at hg'; cases hg'
      · have hg' : (match seqOf d0 S with | some l => some (D.ref S.length, S ++ [.lst l]) | none => none) = some (d, S') := by
          cases d0 with
          | str z => exact absurd ⟨z, rfl⟩ hz
          | _ => exact hg
        cases e : seqOf d0 S with
        | none => rw [e] at hg'; cases hg'
        | some l =>
          rw [e] at hg'; cases hg'
          obtain ⟨a, vs, rfl, hsq, rs'⟩ := seqOf_ok R r1 e
          exact call_list_of pins s σ H _ us Q I r ⟨a, vs, rfl, hsq, fun p hp => q _ (ρ ++ [p]) _ (Ext.new R hp) (R.new hp ⟨_, upd_same, RDs.ext (Ext.new R hp) rs'⟩) (.ref (RS.new' R))⟩
def pTupOf : PL
  | [d], S => (match seqOf d S with | some l => some (.tup l, S) | none => none)
  | _, _ => none
theorem call_pTupOf : CallR X (.type "tuple") (upOL X.K cls pTupOf) := by
  intro pins s σ H xs us Q I r q
  obtain ⟨ds, S, ρ, d, S', R, rs, hg, q⟩ := q
  cases rs with
  | nil => cases hg
  | cons r1 t =>
    rename_i v0 d0 vs0 ds0
    cases t with
    | cons _ _ => cases hg
    | nil =>
      have hg' : (match seqOf d0 S with | some l => some (D.tup l, S) | none => none) = some (d, S') := hg
      cases e : seqOf d0 S with
      | none => rw [e] at hg'; cases hg'
      | some l =>
        rw [e] at hg'; cases hg'
        obtain ⟨a, vs, rfl, hsq, rs'⟩ := seqOf_ok R r1 e
        rcases hsq with hsq | hsq
        · exact call_tuple_of pins s σ H _ us Q I r ⟨a, vs, rfl, .inl ⟨hsq, fun p hp => q _ ρ _ (Ext.side hp) (R.side hp) (.tup (SqT.of upd_same) (RDs.ext (Ext.side hp) rs'))⟩⟩
        · exact call_tuple_of pins s σ H _ us Q I r ⟨a, vs, rfl, .inr ⟨hsq, q H ρ _ (Ext.refl _ _) R (.tup hsq rs')⟩⟩
/-- a list of flags -/
def blsOf : List D → Option (List Bool)
  | [] => some []
  | .bl b :: r => (match blsOf r with | some bs => some (b :: bs) | none => none)
  | _ :: _ => none
theorem blsOf_ok : ∀ {l : List D} {bs : List Bool}, blsOf l = some bs → l = bs.map D.bl
  | [], _, h => by cases h; rfl
  | .bl b :: r, bs, h => by
    have h' : (match blsOf r with | some bs => some (b :: bs) | none => none) = some bs := h
    cases e : blsOf r with
    | none => rw [e] at h'; cases h'
    | some bs' => rw [e] at h'; cases h'; rw [blsOf_ok e]; rfl
  | .non :: _, _, h => by cases h
  | .int _ :: _, _, h => by cases h
  | .str _ :: _, _, h => by cases h
  | .tup _ :: _, _, h => by cases h
  | .ref _ :: _, _, h => by cases h
theorem blsOf_map : ∀ bs : List Bool, blsOf (bs.map D.bl) = some bs
  | [] => rfl
  | b :: bs => by
    show (match blsOf (bs.map D.bl) with | some bs => some (b :: bs) | none => none) = _
    rw [blsOf_map bs]
def intsOf : List D → Option (List Int)
  | [] => some []
  | .int b :: r => (match intsOf r with | some bs => some (b :: bs) | none => none)
  | _ :: _ => none
theorem intsOf_ok : ∀ {l : List D} {bs : List Int}, intsOf l = some bs → l = bs.map D.int
  | [], _, h => by cases h; rfl
  | .int b :: r, bs, h => by
    have h' : (match intsOf r with | some bs => some (b :: bs) | none => none) = some bs := h
    cases e : intsOf r with
    | none => rw [e] at h'; cases h'
    | some bs' => rw [e] at h'; cases h'; rw [intsOf_ok e]; rfl
  | .non :: _, _, h => by cases h
  | .bl _ :: _, _, h => by cases h
  | .str _ :: _, _, h => by cases h
  | .tup _ :: _, _, h => by cases h
  | .ref _ :: _, _, h => by cases h
theorem intsOf_map : ∀ bs : List Int, intsOf (bs.map D.int) = some bs
  | [] => rfl
  | b :: bs => by
    show (match intsOf (bs.map D.int) with | some bs => some (b :: bs) | none => none) = _
    rw [intsOf_map bs]
def strsOf : List D → Option (List Str)
  | [] => some []
  | .str b :: r => (match strsOf r with | some bs => some (b :: bs) | none => none)
  | _ :: _ => none
theorem strsOf_ok : ∀ {l : List D} {bs : List Str}, strsOf l = some bs → l = bs.map D.str
  | [], _, h => by cases h; rfl
  | .str b :: r, bs, h => by
    have h' : (match strsOf r with | some bs => some (b :: bs) | none => none) = some bs := h
    cases e : strsOf r with
    | none => rw [e] at h'; cases h'
    | some bs' => rw [e] at h'; cases h'; rw [strsOf_ok e]; rfl
  | .non :: _, _, h => by cases h
  | .bl _ :: _, _, h => by cases h
  | .int _ :: _, _, h => by cases h
  | .tup _ :: _, _, h => by cases h
  | .ref _ :: _, _, h => by cases h
theorem strsOf_map : ∀ bs : List Str, strsOf (bs.map D.str) = some bs
  | [] => rfl
  | b :: bs => by
    show (match strsOf (bs.map D.str) with | some bs => some (b :: bs) | none => none) = _
    rw [strsOf_map bs]
/-- f of a list of flags, of ints -/
def pBls (g : List Bool → Bool) : PL
  | [.ref r], S => (match S[r]? with | some (.lst l) => (match blsOf l with | some bs => some (.bl (g bs), S) | none => none) | _ => none)
  | _, _ => none
theorem call_pBls {id : String} {g : List Bool → Bool} (h : CallR X (.builtin id) (fun vs H Q => ∃ (a : Addr) (bs : List Bool), vs = [V.ref a] ∧ SqL X.K H a (bs.map V.bl) ∧ Q (.bl (g bs)) H)) : CallR X (.builtin id) (upOL X.K cls (pBls g)) := by
  intro pins s σ H xs us Q I r q
  obtain ⟨ds, S, ρ, d, S', R, rs, hg, q⟩ := q
  cases rs with
  | nil => cases hg
  | cons r1 t =>
    cases t with
    | cons _ _ => cases r1 <;> cases hg
    | nil =>
      cases r1 with
      | ref hr =>
        rename_i a r0
        have hg' : (match S[r0]? with | some (.lst l) => (match blsOf l with | some bs => some (D.bl (g bs), S) | none => none) | _ => none) = some (d, S') := hg
        cases e : S[r0]? with
        | none => simp only [e] at hg'; cases hg'
        | some o =>
          simp only [e] at hg'
          cases o with
          | lst l =>
            dsimp only at hg'
            cases e2 : blsOf l with
            | none => rw [e2] at hg'; cases hg'
            | some bs =>
              rw [e2] at hg'; cases hg'
              obtain ⟨vs, hv, t⟩ := R.lst hr e
              rw [blsOf_ok e2] at t
              exact h pins s σ H _ us Q I r ⟨a, bs, rfl, by rw [← RDs.bls t]; exact SqL.of hv, q H ρ _ (Ext.refl _ _) R (.bl _)⟩
          | _ => cases hg'
      | _ => cases hg
abbrev pAll : PL := pBls fun bs => bs.all id
abbrev pAny : PL := pBls fun bs => bs.any id
theorem call_pAll (hc : X.calm = true) : CallR X (.builtin "all") (upOL X.K cls pAll) := call_pBls (cr_all hc)
theorem call_pAny (hc : X.calm = true) : CallR X (.builtin "any") (upOL X.K cls pAny) := call_pBls (cr_any hc)
def pSum : PL
  | [.ref r], S => (match S[r]? with | some (.lst l) => (match intsOf l with | some bs => some (.int bs.sum, S) | none => none) | _ => none)
  | _, _ => none
theorem call_pSum (hc : X.calm = true) : CallR X (.builtin "sum") (upOL X.K cls pSum) := by
  intro pins s σ H xs us Q I r q
  obtain ⟨ds, S, ρ, d, S', R, rs, hg, q⟩ := q
  cases rs with
  | nil => cases hg
  | cons r1 t =>
    cases t with
    | cons _ _ => cases r1 <;> cases hg
    | nil =>
      cases r1 with
      | ref hr =>
        rename_i a r0
        have hg' : (match S[r0]? with | some (.lst l) => (match intsOf l with | some bs => some (D.int bs.sum, S) | none => none) | _ => none) = some (d, S') := hg
        cases e : S[r0]? with
        | none => simp only [e] at hg'; cases hg'
        | some o =>
          simp only [e] at hg'
          cases o with
          | lst l =>
            dsimp only at hg'
            cases e2 : intsOf l with
            | none => rw [e2] at hg'; cases hg'
            | some bs =>
              rw [e2] at hg'; cases hg'
              obtain ⟨vs, hv, t⟩ := R.lst hr e
              rw [intsOf_ok e2] at t
              exact cr_sum hc pins s σ H _ us Q I r ⟨a, bs, rfl, by rw [← RDs.ints t]; exact SqL.of hv, q H ρ _ (Ext.refl _ _) R (.int _)⟩
          | _ => cases hg'
      | _ => cases hg

/-! ### methods of built-in types -/
abbrev PM := D → List D → Store → Option (D × Store)
def tyD (T : String) (d : D) (S : Store) : Bool := match d with
  | .str _ => T == "str"
  | .int _ => T == "int"
  | .fro _ => T == "list"
  | .ref r => (match S[r]? with | some (.lst _) => T == "list" | some (.dic _) => T == "dict" | _ => false)
  | _ => false
theorem tyD_ok {T : String} {v : V} {d : D} {S : Store} {H : Hp} {ρ : List Addr} (R : RS K cls H ρ S) (r : RD K H ρ v d) (h : tyD T d S = true) : tyV K T v H := by
  cases r with
  | str _ => exact eq_of_beq h
  | int _ => exact eq_of_beq h
  | fro hs _ => exact .inl ⟨eq_of_beq h, _, hs.sq⟩
  | ref hr =>
    rename_i a r
    have h' : (match S[r]? with | some (.lst _) => T == "list" | some (.dic _) => T == "dict" | _ => false) = true := h
    cases e : S[r]? with
    | none => simp only [e] at h'; cases h'
    | some o =>
      simp only [e] at h'
      cases o with
      | lst l => obtain ⟨vs, hv, _⟩ := R.lst hr e; exact .inl ⟨eq_of_beq h', vs, SqL.of hv⟩
      | dic l =>
        obtain ⟨a', e', kk, hv, t⟩ := R.ob r _ e
        rw [hr] at e'; cases e'
        exact .inr (.inr (.inl ⟨eq_of_beq h', .inl ⟨kk, hv⟩⟩))
      | ins _ _ => cases h'
  | _ => cases h
def eBM (T : String) (g : PM) (fo : DE) (fa : DA) : DE := fun η S => (fo η S).bind fun x S1 => if tyD T x S1 = true then (fa η S1).bind fun xs S2 => Opt (g x xs S2) else .bad
def upM (K : PySem.W.Frag) (cls : Nat → Addr) (g : PM) : V → List V → Hp → VK → Prop := fun x xs H Q => ∃ dx ds S ρ d S', RS K cls H ρ S ∧ RD K H ρ x dx ∧ RDs K H ρ xs ds ∧ g dx ds S = some (d, S') ∧
  ∀ H' ρ' v, Ext H ρ H' ρ' → RS K cls H' ρ' S' → RD K H' ρ' v d → Q v H'
theorem tBM_up {T : String} {g : PM} {fo : DE} {fa : DA} {σ : L2.St} {H : Hp} {Q : VK} (h : upE K cls W (eBM T g fo fa) σ H Q) : tBM K T (upM K cls g) (upE K cls W fo) (upA K cls W fa) σ H Q := by
  obtain ⟨η, S, ρ, R, a⟩ := h
  refine upE_go R a fun x v H1 ρ1 S1 e1 R1 r1 a1 => ?_
  by_cases ht : tyD T x S1 = true
  · rw [if_pos ht] at a1
    refine ⟨tyD_ok R1.1 r1 ht, ?_⟩
    refine upA_go R1 a1 fun xs vs H2 ρ2 S2 e2 R2 r2 a2 => ?_
    obtain ⟨d, S', hg, q⟩ := after_opt a2
    exact ⟨x, xs, S2, ρ2, d, S', R2.1, RD.ext e2 r1, r2, hg, q⟩
  · rw [if_neg ht] at a1; exact a1.elim
theorem tBM0_up {T : String} {g : PM} {fo : DE} {σ : L2.St} {H : Hp} {Q : VK} (h : upE K cls W (eBM T g fo aNil) σ H Q) : tBM0 K T (upM K cls g) (upE K cls W fo) σ H Q := by
  obtain ⟨η, S, ρ, R, a⟩ := h
  refine upE_go R a fun x v H1 ρ1 S1 e1 R1 r1 a1 => ?_
  by_cases ht : tyD T x S1 = true
  · rw [if_pos ht] at a1
    refine ⟨tyD_ok R1.1 r1 ht, ?_⟩
    obtain ⟨d, S', hg, q⟩ := after_opt a1
    exact ⟨x, [], S1, ρ1, d, S', R1.1, r1, .nil, hg, q⟩
  · rw [if_neg ht] at a1; exact a1.elim
theorem de_bm {T : String} {g : PM} {fo : DE} {fa : DA} {e : Expr} (h : PE X e (tBM X.K T (upM X.K cls g) (upE X.K cls W fo) (upA X.K cls W fa))) : PE X e (upE X.K cls W (eBM T g fo fa)) := PE.weak h fun _ _ _ h => tBM_up h
theorem de_bm0 {T : String} {g : PM} {fo : DE} {e : Expr} (h : PE X e (tBM0 X.K T (upM X.K cls g) (upE X.K cls W fo))) : PE X e (upE X.K cls W (eBM T g fo aNil)) := PE.weak h fun _ _ _ h => tBM0_up h
/-- a method of a list that may change it -/
def mLst (g : List D → List D → Store → Option (D × List D)) : PM := fun d ds S => match d with
  | .ref r => (match S[r]? with | some (.lst l) => (match g l ds S with | some (x, l') => some (x, S.set r (.lst l')) | none => none) | _ => none)
  | _ => none
theorem mt_mLst {id : String} {g : List D → List D → Store → Option (D × List D)} (h : ∀ (pins : List (Addr × Obj)) (s : Shared) (σ : L2.St) (H : Hp) (a : Addr) (xs : List V) (v : Value) (us : List Value) (Q : VK) (vs : List V) (l : List D) (ds : List D) (S : Store) (ρ : List Addr) (x : D) (l' : List D),
    Inv X pins σ H s → RelV (.ref a) v → Vals xs us → RS X.K cls H ρ S → H a = some (.lst vs) → a ∈ ρ → RDs X.K H ρ vs l → RDs X.K H ρ xs ds → g l ds S = some (x, l') → (∀ vs' v', (∀ H' , Ext H ρ H' ρ → RDs X.K H' ρ vs' l') → (∀ H', Ext H ρ H' ρ → RD X.K H' ρ v' x) → Q v' (upd H a (.lst vs'))) →
    wpAny (model X.prog X.w) X.A (call (.builtin id) (v :: us)) (EP X pins σ Q) X.xe s) : MtR X id (upM X.K cls (mLst g)) := by
  intro pins s σ H x xs v us Q I rx rs q
  obtain ⟨dx, ds, S, ρ, d, S', R, r1, r2, hg, q⟩ := q
  cases r1 with
  | ref hr =>
    rename_i a r
    have hg' : (match S[r]? with | some (.lst l) => (match g l ds S with | some (x, l') => some (x, S.set r (.lst l')) | none => none) | _ => none) = some (d, S') := hg
    cases e : S[r]? with
    | none => simp only [e] at hg'; cases hg'
    | some o =>
      simp only [e] at hg'
      cases o with
      | lst l =>
        dsimp only at hg'
        cases e2 : g l ds S with
        | none => rw [e2] at hg'; cases hg'
        | some p =>
          obtain ⟨x, l'⟩ := p
          rw [e2] at hg'; cases hg'
          obtain ⟨vs, hv, t⟩ := R.lst hr e
          refine h pins s σ H a xs v us Q vs l ds S ρ _ l' I rx rs R hv (List.mem_of_getElem? hr) t r2 e2 fun vs' v' h1 h2 => ?_
          have ep : Ext H ρ (upd H a (.lst vs')) ρ := Ext.put R (List.mem_of_getElem? hr) hv (fun _ _ z => nomatch z)
          exact q _ ρ _ ep (R.put hr hv (fun _ _ z => nomatch z) ⟨vs', upd_same, h1 _ ep⟩) (h2 _ ep)
      | _ => cases hg'
  | _ => cases hg
def gAppend (l ds : List D) (_ : Store) : Option (D × List D) := match ds with | [d] => if l.length < sizeLine then some (.non, l ++ [d]) else none | _ => none
theorem mt_dAppend : MtR X "list.append" (upM X.K cls (mLst gAppend)) := mt_mLst fun pins s σ H a xs v us Q vs l ds S ρ x l' I rx rs R hv hm t r2 hg q => by
  cases r2 with
  | nil => cases hg
  | cons r1 t2 =>
    rename_i v0 d0 vs0 ds0
    cases t2 with
    | cons _ _ => cases hg
    | nil =>
      have hg' : (if l.length < sizeLine then some (D.non, l ++ [d0]) else none) = some (x, l') := hg
      by_cases hl : l.length < sizeLine
      · rw [if_pos hl] at hg'; cases hg'
        exact mt_append pins s σ H _ _ v us Q I rx rs ⟨a, vs, v0, rfl, rfl, hv, by rw [t.length]; exact hl, q _ _ (fun H' e => RDs.append (RDs.ext e t) (.cons (RD.ext e r1) .nil)) fun _ _ => .non⟩
      · rw [if_neg hl] at hg'; cases hg'
def gExtend (l ds : List D) (S : Store) : Option (D × List D) := match ds with
  | [.ref q] => (match S[q]? with | some (.lst m) => if l.length + m.length ≤ sizeLine then some (.non, l ++ m) else none | _ => none)
  | _ => none
theorem mt_dExtend : MtR X "list.extend" (upM X.K cls (mLst gExtend)) := mt_mLst fun pins s σ H a xs v us Q vs l ds S ρ x l' I rx rs R hv hm t r2 hg q => by
  cases r2 with
  | nil => cases hg
  | cons r1 t2 =>
    cases t2 with
    | cons _ _ => cases r1 <;> cases hg
    | nil =>
      cases r1 with
      | ref hr =>
        rename_i b q0
        have hg' : (match S[q0]? with | some (.lst m) => if l.length + m.length ≤ sizeLine then some (D.non, l ++ m) else none | _ => none) = some (x, l') := hg
        cases e : S[q0]? with
        | none => simp only [e] at hg'; cases hg'
        | some o =>
          simp only [e] at hg'
          cases o with
          | lst m =>
            dsimp only at hg'
            by_cases hl : l.length + m.length ≤ sizeLine
            · rw [if_pos hl] at hg'; cases hg'
              obtain ⟨ws, hw, t2⟩ := R.lst hr e
              exact mt_extend pins s σ H _ _ v us Q I rx rs ⟨a, b, vs, ws, rfl, rfl, hv, hw, by rw [t.length, t2.length]; exact hl, q _ _ (fun H' e => RDs.append (RDs.ext e t) (RDs.ext e t2)) fun _ _ => .non⟩
            · rw [if_neg hl] at hg'; cases hg'
          | _ => cases hg'
      | _ => cases hg
def gPop (l ds : List D) (_ : Store) : Option (D × List D) := match ds with | [] => (match l[l.length - 1]? with | some d => some (d, l.dropLast) | none => none) | _ => none
theorem mt_dPop : MtR X "list.pop" (upM X.K cls (mLst gPop)) := mt_mLst fun pins s σ H a xs v us Q vs l ds S ρ x l' I rx rs R hv hm t r2 hg q => by
  cases r2 with
  | cons _ _ => cases hg
  | nil =>
    have hg' : (match l[l.length - 1]? with | some d => some (d, l.dropLast) | none => none) = some (x, l') := hg
    cases e : l[l.length - 1]? with
    | none => rw [e] at hg'; cases hg'
    | some d =>
      rw [e] at hg'; cases hg'
      obtain ⟨y, hy, ry⟩ := RDs.get' t e
      exact mt_pop pins s σ H _ _ v us Q I rx rs ⟨a, vs, y, rfl, rfl, hv, by rw [t.length]; exact hy, q _ _ (fun H' e => by rw [List.dropLast_eq_take, List.dropLast_eq_take, t.length]; exact RDs.take _ (RDs.ext e t)) fun H' e => RD.ext e ry⟩
def gPopAt (l ds : List D) (_ : Store) : Option (D × List D) := match ds with
  | [.int i] => if -(2 ^ 63) ≤ i ∧ i < 2 ^ 63 then (match seqIndex? i l.length with | some k => (match l[k]? with | some d => some (d, l.eraseIdx k) | none => none) | none => none) else none
  | _ => none
theorem mt_dPopAt : MtR X "list.pop" (upM X.K cls (mLst gPopAt)) := mt_mLst fun pins s σ H a xs v us Q vs l ds S ρ x l' I rx rs R hv hm t r2 hg q => by
  cases r2 with
  | nil => cases hg
  | cons r1 t2 =>
    cases t2 with
    | cons _ _ => cases r1 <;> cases hg
    | nil =>
      cases r1 with
      | int i =>
        have hg' : (if -(2 ^ 63) ≤ i ∧ i < 2 ^ 63 then (match seqIndex? i l.length with | some k => (match l[k]? with | some d => some (d, l.eraseIdx k) | none => none) | none => none) else none) = some (x, l') := hg
        by_cases hi : -(2 ^ 63) ≤ i ∧ i < 2 ^ 63
        · rw [if_pos hi] at hg'
          cases e : seqIndex? i l.length with
          | none => rw [e] at hg'; cases hg'
          | some k =>
            rw [e] at hg'
            dsimp only at hg'
            cases e2 : l[k]? with
            | none => rw [e2] at hg'; cases hg'
            | some d =>
              rw [e2] at hg'; cases hg'
              obtain ⟨y, hy, ry⟩ := RDs.get' t e2
              exact mt_popAt pins s σ H _ _ v us Q I rx rs ⟨a, vs, i, k, y, rfl, rfl, hv, hi.1, hi.2, by rw [t.length]; exact e, hy, q _ _ (fun H' e => RDs.eraseIdx k (RDs.ext e t)) fun H' e => RD.ext e ry⟩
        · rw [if_neg hi] at hg'; cases hg'
      | _ => cases hg
def gInsert (l ds : List D) (_ : Store) : Option (D × List D) := match ds with
  | [.int i, d] => if l.length < sizeLine ∧ 0 ≤ i ∧ i < 2 ^ 63 then some (.non, l.take i.toNat ++ [d] ++ l.drop i.toNat) else none
  | _ => none
theorem mt_dInsert : MtR X "list.insert" (upM X.K cls (mLst gInsert)) := mt_mLst fun pins s σ H a xs v us Q vs l ds S ρ x l' I rx rs R hv hm t r2 hg q => by
  cases r2 with
  | nil => cases hg
  | cons r1 t2 =>
    cases t2 with
    | nil => cases r1 <;> cases hg
    | cons r2 t3 =>
      rename_i v1 d1 _ _
      cases t3 with
      | cons _ _ => cases r1 <;> cases hg
      | nil =>
        cases r1 with
        | int i =>
          have hg' : (if l.length < sizeLine ∧ 0 ≤ i ∧ i < 2 ^ 63 then some (D.non, l.take i.toNat ++ [d1] ++ l.drop i.toNat) else none) = some (x, l') := hg
          by_cases hi : l.length < sizeLine ∧ 0 ≤ i ∧ i < 2 ^ 63
          · rw [if_pos hi] at hg'; cases hg'
            exact mt_insert pins s σ H _ _ v us Q I rx rs ⟨a, vs, i, v1, rfl, rfl, hv, by rw [t.length]; exact hi.1, hi.2.1, hi.2.2, q _ _ (fun H' e => RDs.append (RDs.append (RDs.take _ (RDs.ext e t)) (.cons (RD.ext e r2) .nil)) (RDs.drop _ (RDs.ext e t))) fun _ _ => .non⟩
          · rw [if_neg hi] at hg'; cases hg'
        | _ => cases hg
/-- sep.join(xs) -/
def mJoin : PM
  | .str z, [d], S => (match seqOf d S with
    | some l => (match strsOf l with
      | some ys => if (ys.map (·.length)).sum + ys.length * z.length ≤ 16777216 then some (.str (Txt.join z ys), S) else none
      | none => none)
    | none => none)
  | _, _, _ => none
theorem mt_dJoin : MtR X "str.join" (upM X.K cls mJoin) := by
  intro pins s σ H x xs v us Q I rx rs q
  obtain ⟨dx, ds, S, ρ, d, S', R, r1, r2, hg, q⟩ := q
  cases r1 with
  | str z =>
    cases r2 with
    | nil => cases hg
    | cons r2 t2 =>
      rename_i v0 d0 vs0 ds0
      cases t2 with
      | cons _ _ => cases hg
      | nil =>
        have hg' : (match seqOf d0 S with
          | some l => (match strsOf l with
            | some ys => if (ys.map (·.length)).sum + ys.length * z.length ≤ 16777216 then some (D.str (Txt.join z ys), S) else none
            | none => none)
          | none => none) = some (d, S') := hg
        cases e : seqOf d0 S with
        | none => rw [e] at hg'; cases hg'
        | some l =>
          rw [e] at hg'
          dsimp only at hg'
          obtain ⟨a, vs, rfl, hsq, rs'⟩ := seqOf_ok R r2 e
          cases e2 : strsOf l with
          | none => rw [e2] at hg'; cases hg'
          | some ys =>
            rw [e2] at hg'
            dsimp only at hg'
            by_cases hz : (ys.map (·.length)).sum + ys.length * z.length ≤ 16777216
            · rw [if_pos hz] at hg'; cases hg'
              rw [strsOf_ok e2] at rs'
              have := RDs.strs rs'
              subst this
              exact mt_join pins s σ H _ _ v us Q I rx rs ⟨z, a, ys, rfl, rfl, hsq, hz, q H ρ _ (Ext.refl _ _) R (.str _)⟩
            · rw [if_neg hz] at hg'; cases hg'
  | _ => cases hg
end
end DL

set_option Elab.async false
set_option linter.all false
set_option maxRecDepth 100000
set_option maxHeartbeats 1000000
/-! The layer's objects, isinstance, == and in. -/
namespace DL
open PySem PySem.Spec L2
open PyProof.Rows hiding St
section
variable {K : PySem.W.Frag} {cls : Nat → Addr} {W : WX} {X : Cx}

/-! ### isinstance -/
def sub0 (a T : String) : Bool := a == T || (a == "bool" && T == "int")
/-- what a class of one's own is asked for its instances in isinstance -/
structure InsOk (K : PySem.W.Frag) (C : Addr) : Prop where
  cl : Cls K C
  ha : PySem.W.findIn K (.ref C) "__class__" = some (some (.builtin "object.__class__"))
  hn : PySem.W.specialIn K (.builtin "object.__class__") "__get__" = some (some (.builtin "getset_descriptor.__get__"))
  htk : PySem.W.takesIn K (.builtin "object.__class__") = some true
  hm : PySem.W.mroIn K C (.type "object") = some true
def pIsi (nI : Nat) (T : String) : P1 := fun d S => match d with
  | .non => some (.bl (sub0 "NoneType" T), S)
  | .bl _ => some (.bl (sub0 "bool" T), S)
  | .int _ => some (.bl (sub0 "int" T), S)
  | .str _ => some (.bl (sub0 "str" T), S)
  | .tup _ => some (.bl (sub0 "tuple" T), S)
  | .fro _ => some (.bl (sub0 "list" T), S)
  | .ref r => (match S[r]? with
    | some (.lst _) => some (.bl (sub0 "list" T), S)
    | some (.dic _) => some (.bl (sub0 "dict" T), S)
    | some (.ins c _) => if c < nI then some (.bl false, S) else none
    | none => none)
def kinds : List String := ["NoneType", "bool", "int", "str", "tuple", "list", "dict"]
theorem SqT.ty {H : Hp} {a : Addr} {xs : List V} (h : SqT K H a xs) : TyX K H (.ref a) (.type "tuple") := by
  rcases h with (h | ⟨o, h⟩) | ⟨o, its, n, h, hc, _⟩
  · exact .base (.tup h)
  · exact .fTuple h
  · exact .kTuple h hc
theorem SqF.ty {H : Hp} {a : Addr} {xs : List V} (h : SqF K H a xs) : TyX K H (.ref a) (.type "list") := by
  rcases h with ⟨o, h⟩ | ⟨o, its, n, h, hc, _⟩
  · exact .base (.frz h)
  · exact .kList h hc
/-- what a thing's type is -/
theorem ty_of {H : Hp} {ρ : List Addr} {S : Store} {v : V} {d : D} {nI : Nat} (hI : ∀ c, c < nI → InsOk K (cls c)) (R : RS K cls H ρ S) (r : RD K H ρ v d) :
    (∃ a ∈ kinds, TyX K H v (.type a) ∧ ∀ T, pIsi nI T d S = some (.bl (sub0 a T), S)) ∨ (∃ r c fs, d = .ref r ∧ S[r]? = some (.ins c fs) ∧ ∀ T b S', pIsi nI T d S = some (b, S') → c < nI ∧ b = .bl false ∧ S' = S ∧ TyX K H v (.ref (cls c))) ∨ ∀ T, pIsi nI T d S = none := by
  cases r with
  | non => exact .inl ⟨"NoneType", by simp [kinds], .base .non, fun T => rfl⟩
  | bl b => exact .inl ⟨"bool", by simp [kinds], .base (.bl b), fun T => rfl⟩
  | int b => exact .inl ⟨"int", by simp [kinds], .base (.int b), fun T => rfl⟩
  | str b => exact .inl ⟨"str", by simp [kinds], .base (.str b), fun T => rfl⟩
  | tup h t => exact .inl ⟨"tuple", by simp [kinds], SqT.ty h, fun T => rfl⟩
  | fro h t => exact .inl ⟨"list", by simp [kinds], SqF.ty h, fun T => rfl⟩
  | ref hr =>
    rename_i a r
    cases e : S[r]? with
    | none => exact .inr (.inr fun T => by unfold pIsi; simp only [e])
    | some o =>
      cases o with
      | lst l => obtain ⟨vs, hv, _⟩ := R.lst hr e; exact .inl ⟨"list", by simp [kinds], .base (.lst hv), fun T => by unfold pIsi; simp only [e]⟩
      | dic l =>
        obtain ⟨a', e', kk, hv, t⟩ := R.ob r _ e
        rw [hr] at e'; cases e'
        exact .inl ⟨"dict", by simp [kinds], .base (.dK hv), fun T => by unfold pIsi; simp only [e]⟩
      | ins c fs =>
        obtain ⟨a', e', dx, vfs, hv, t⟩ := R.ob r _ e
        rw [hr] at e'; cases e'
        refine .inr (.inl ⟨r, c, fs, rfl, e, fun T b S' h => ?_⟩)
        unfold pIsi at h
        simp only [e] at h
        by_cases hc : c < nI
        · rw [if_pos hc] at h; cases h
          have q := hI c hc
          exact ⟨hc, rfl, rfl, .base (.ins hv q.cl q.ha q.hn q.htk q.hm)⟩
        · rw [if_neg hc] at h; cases h
theorem de_isi {nI : Nat} {T : String} {e : Expr} {fe : DE} (hI : ∀ c, c < nI → InsOk X.K (cls c)) (hK : ∀ c, c < nI → PySem.W.kitOne X.K (.ref (cls c)) (.type T) = some false) (ht : (kinds.all fun a => kitB a T == some (sub0 a T)) = true)
    (h : PE X e (tCB (rIsi X.K) (tCons (upE X.K cls W fe) (tCons (tC (.ty T)) tNil)))) {e' : Expr} (he : e' = e) : PE X e' (upE X.K cls W (eUn (pIsi nI T) fe)) := by
  subst he
  refine PE.weak h fun σ H Q h => ?_
  obtain ⟨η, S, ρ, R, a⟩ := h
  refine upE_go R a fun d v H1 ρ1 S1 e1 R1 r1 a1 => ?_
  obtain ⟨b, S', hg, q⟩ := after_opt a1
  rcases ty_of hI R1.1 r1 with ⟨t, ht', ty, hp⟩ | ⟨r, c, fs, rfl, hS, hp⟩ | hp
  · rw [hp] at hg; cases hg
    have hk := List.all_eq_true.mp ht t ht'
    exact ⟨v, .ty T, .type t, .type T, sub0 t T, rfl, .ty T, ty, kit_ty (eq_of_beq hk), q H1 ρ1 _ (Ext.refl _ _) R1.1 (.bl _)⟩
  · obtain ⟨hc, rfl, rfl, ty⟩ := hp T b S' hg
    exact ⟨v, .ty T, .ref (cls c), .type T, false, rfl, .ty T, ty, hK c hc, q H1 ρ1 _ (Ext.refl _ _) R1.1 (.bl _)⟩
  · rw [hp] at hg; cases hg
/-- isinstance(x, C) of one's own class, number k -/
def pIsO (nI k : Nat) : P1 := fun d S => match d with
  | .ref r => (match S[r]? with
    | some (.ins c _) => if c < nI then some (.bl (c == k), S) else none
    | some _ => some (.bl false, S)
    | none => none)
  | _ => some (.bl false, S)
theorem de_isO {nI k : Nat} {e : Expr} {fe : DE} (hI : ∀ c, c < nI → InsOk X.K (cls c)) (hK : ∀ c, c < nI → PySem.W.kitOne X.K (.ref (cls c)) (.ref (cls k)) = some (c == k)) (ht : ∀ a ∈ kinds, PySem.W.kitOne X.K (.type a) (.ref (cls k)) = some false)
    (h : PE X e (tCB (rIsi X.K) (tCons (upE X.K cls W fe) (tCons (tC (.ref (cls k))) tNil)))) : PE X e (upE X.K cls W (eUn (pIsO nI k) fe)) := by
  refine PE.weak h fun σ H Q h => ?_
  obtain ⟨η, S, ρ, R, a⟩ := h
  refine upE_go R a fun d v H1 ρ1 S1 e1 R1 r1 a1 => ?_
  obtain ⟨b, S', hg, q⟩ := after_opt a1
  have kin : ∀ a ∈ kinds, TyX X.K H1 v (.type a) → pIsO nI k d S1 = some (.bl false, S1) → rIsi X.K [v, .ref (cls k)] H1 Q := by
    intro t ht' ty hp
    rw [hp] at hg; cases hg
    exact ⟨v, .ref (cls k), .type t, .ref (cls k), false, rfl, .own _, ty, ht t ht', q H1 ρ1 _ (Ext.refl _ _) R1.1 (.bl _)⟩
  cases r1 with
  | non => exact kin "NoneType" (by simp [kinds]) (.base .non) rfl
  | bl b => exact kin "bool" (by simp [kinds]) (.base (.bl b)) rfl
  | int b => exact kin "int" (by simp [kinds]) (.base (.int b)) rfl
  | str b => exact kin "str" (by simp [kinds]) (.base (.str b)) rfl
  | tup h t => exact kin "tuple" (by simp [kinds]) (SqT.ty h) rfl
  | fro h t => exact kin "list" (by simp [kinds]) (SqF.ty h) rfl
  | ref hr =>
    rename_i a r
    cases e : S1[r]? with
    | none => unfold pIsO at hg; simp only [e] at hg; cases hg
    | some o =>
      cases o with
      | lst l => obtain ⟨vs, hv, _⟩ := R1.1.lst hr e; exact kin "list" (by simp [kinds]) (.base (.lst hv)) (by unfold pIsO; simp only [e])
      | dic l =>
        obtain ⟨a', e', kk, hv, t⟩ := R1.1.ob r _ e
        rw [hr] at e'; cases e'
        exact kin "dict" (by simp [kinds]) (.base (.dK hv)) (by unfold pIsO; simp only [e])
      | ins c fs =>
        obtain ⟨a', e', dx, vfs, hv, t⟩ := R1.1.ob r _ e
        rw [hr] at e'; cases e'
        unfold pIsO at hg
        simp only [e] at hg
        by_cases hc : c < nI
        · rw [if_pos hc] at hg; cases hg
          have z := hI c hc
          exact ⟨_, .ref (cls k), .ref (cls c), .ref (cls k), (c == k), rfl, .own _, .base (.ins hv z.cl z.ha z.hn z.htk z.hm), hK c hc, q H1 ρ1 _ (Ext.refl _ _) R1.1 (.bl _)⟩
        · rw [if_neg hc] at hg; cases hg

/-! ### attributes, methods, making -/
def putFD (f : Str) (d : D) : List (Str × D) → List (Str × D)
  | [] => [(f, d)]
  | (g, x) :: r => if g = f then (g, d) :: r else (g, x) :: putFD f d r
theorem RF.put {H : Hp} {ρ : List Addr} {f : Str} {v : V} {d : D} (h : RD K H ρ v d) : ∀ {vs : List (Str × V)} {ds : List (Str × D)}, RF K H ρ vs ds → RF K H ρ (putF f v vs) (putFD f d ds)
  | _, _, .nil => .cons h .nil
  | _, _, .cons (f := g) q t => by
    unfold putF putFD
    by_cases e : g = f
    · rw [if_pos e, if_pos e]; exact .cons h t
    · rw [if_neg e, if_neg e]; exact .cons q (RF.put h t)
theorem RF.look {H : Hp} {ρ : List Addr} {f : Str} {d : D} : ∀ {vs : List (Str × V)} {ds : List (Str × D)}, RF K H ρ vs ds → ds.lookup f = some d → ∃ v, vs.lookup f = some v ∧ RD K H ρ v d
  | _, _, .nil, h => by cases h
  | _, _, .cons (f := g) q t, h => by
    by_cases e : f = g
    · have hb : (f == g) = true := beq_iff_eq.mpr e
      simp only [List.lookup, hb] at h ⊢
      cases h
      exact ⟨_, rfl, q⟩
    · have hb : (f == g) = false := beq_eq_false_iff_ne.mpr e
      simp only [List.lookup, hb] at h ⊢
      exact RF.look t h
theorem RF.look0 {H : Hp} {ρ : List Addr} {f : Str} : ∀ {vs : List (Str × V)} {ds : List (Str × D)}, RF K H ρ vs ds → ds.lookup f = none → vs.lookup f = none
  | _, _, .nil, h => rfl
  | _, _, .cons (f := g) q t, h => by
    by_cases e : f = g
    · have hb : (f == g) = true := beq_iff_eq.mpr e
      simp only [List.lookup, hb] at h; cases h
    · have hb : (f == g) = false := beq_eq_false_iff_ne.mpr e
      simp only [List.lookup, hb] at h ⊢
      exact RF.look0 t h
theorem RF.length {H : Hp} {ρ : List Addr} : ∀ {vs : List (Str × V)} {ds : List (Str × D)}, RF K H ρ vs ds → vs.length = ds.length
  | _, _, .nil => rfl
  | _, _, .cons _ t => congrArg (· + 1) (RF.length t)
theorem RS.ins {H : Hp} {ρ : List Addr} {S : Store} {r : Nat} {a : Addr} {c : Nat} {fs : List (Str × D)} (R : RS K cls H ρ S) (hr : ρ[r]? = some a) (h : S[r]? = some (.ins c fs)) : ∃ dx vfs, H a = some (.ins (cls c) dx vfs) ∧ RF K H ρ vfs fs := by
  obtain ⟨a', e, q⟩ := R.ob r _ h
  rw [hr] at e; cases e
  exact q
/-- o.f, o an instance of one of the classes cs -/
def pFld (cs : List Nat) (f : Str) : P1 := fun d S => match d with
  | .ref r => (match S[r]? with | some (.ins c fs) => if c ∈ cs then (match fs.lookup f with | some x => some (x, S) | none => none) else none | _ => none)
  | _ => none
theorem de_fld {cs : List Nat} {f : Str} {e : Expr} {fe : DE} {pos : Pos} (hN : ∀ c ∈ cs, Cls X.K (cls c) ∧ NoAttr X.K (cls c) f) (he : PE X e (upE X.K cls W fe)) (hb : attributeBase e f X.env (eval e X.env) = eval e X.env) :
    PE X (.Attribute e f pos) (upE X.K cls W (eUn (pFld cs f) fe)) :=
  PE.weak (pe_fld he hb) fun σ H Q h => by
    obtain ⟨η, S, ρ, R, a⟩ := h
    refine upE_go R a fun d v H1 ρ1 S1 e1 R1 r1 a1 => ?_
    obtain ⟨b, S', hg, q⟩ := after_opt a1
    cases r1 with
    | ref hr =>
      rename_i a r
      unfold pFld at hg
      cases e : S1[r]? with
      | none => simp only [e] at hg; cases hg
      | some o =>
        simp only [e] at hg
        cases o with
        | ins c fs =>
          dsimp only at hg
          by_cases hc : c ∈ cs
          · rw [if_pos hc] at hg
            cases e2 : fs.lookup f with
            | none => rw [e2] at hg; cases hg
            | some x =>
              rw [e2] at hg; cases hg
              obtain ⟨dx, vfs, hv, rf⟩ := R1.1.ins hr e
              obtain ⟨w', h1, h2⟩ := rf.look e2
              exact ⟨a, cls c, dx, vfs, w', rfl, hv, (hN c hc).1, (hN c hc).2, h1, q H1 ρ1 _ (Ext.refl _ _) R1.1 h2⟩
          · rw [if_neg hc] at hg; cases hg
        | _ => cases hg
    | _ => cases hg
/-- o.f = e -/
def sFldPut (cs : List Nat) (f : Str) (fo fv : DE) : DS := fun η S => match fv η S with
  | .ok d S1 => (match fo η S1 with
    | .ok o S2 => (match o with
      | .ref r => (match S2[r]? with | some (.ins c fs) => if c ∈ cs ∧ fs.length < 1000 then .nx η (S2.set r (.ins c (putFD f d fs))) else .bad | _ => .bad)
      | _ => .bad)
    | .err x S' => .err x η S' | .bad => .bad)
  | .err x S' => .err x η S' | .bad => .bad
theorem dps_fld {cs : List Nat} {f : Str} {fo fv : DE} {st : Stmt} (hN : ∀ c ∈ cs, Cls X.K (cls c) ∧ NoAttr X.K (cls c) f) (hps : PS X st (sFld X.K (upE X.K cls W fo) (upE X.K cls W fv) f)) : PS X st (upS X.K cls W (sFldPut cs f fo fv)) :=
  PS.weak hps fun E σ H h => by
    obtain ⟨η, S, ρ, R, a⟩ := h
    refine upE_s (k := fun d S1 => (match fo η S1 with
      | .ok o S2 => (match o with
        | .ref r => (match S2[r]? with | some (.ins c fs) => if c ∈ cs ∧ fs.length < 1000 then .nx η (S2.set r (.ins c (putFD f d fs))) else .bad | _ => .bad)
        | _ => .bad)
      | .err x S' => .err x η S' | .bad => .bad)) R a fun d v H1 ρ1 S1 e1 R1 r1 a1 => ?_
    refine upE_s (k := fun o S2 => (match o with
        | .ref r => (match S2[r]? with | some (.ins c fs) => if c ∈ cs ∧ fs.length < 1000 then .nx η (S2.set r (.ins c (putFD f d fs))) else .bad | _ => .bad)
        | _ => .bad)) R1 a1 fun o ov H2 ρ2 S2 e2 R2 r2 a2 => ?_
    cases r2 with
    | ref hr =>
      rename_i a r
      have a3 : AfterS X.K cls W E H2 ρ2 (match S2[r]? with | some (.ins c fs) => if c ∈ cs ∧ fs.length < 1000 then .nx η (S2.set r (.ins c (putFD f d fs))) else .bad | _ => .bad) := a2
      cases e : S2[r]? with
      | none => simp only [e] at a3; exact a3.elim
      | some ob =>
        simp only [e] at a3
        cases ob with
        | ins c fs =>
          dsimp only at a3
          by_cases hc : c ∈ cs ∧ fs.length < 1000
          · rw [if_pos hc] at a3
            obtain ⟨dx, vfs, hv, rf⟩ := R2.1.ins hr e
            refine ⟨a, cls c, dx, vfs, rfl, hv, (hN c hc.1).1, (hN c hc.1).2, by rw [rf.length]; exact hc.2, ?_⟩
            have ep : Ext H2 ρ2 (upd H2 a (.ins (cls c) dx (putF f v vfs))) ρ2 := Ext.put R2.1 (List.mem_of_getElem? hr) hv (fun _ _ z => nomatch z)
            exact a3 σ _ ρ2 ep (R2.1.put hr hv (fun _ _ z => nomatch z) ⟨dx, _, upd_same, RF.put (RD.ext (e2.trans ep) r1) (RF.ext ep rf)⟩) (RE.ext ep R2.2)
          · rw [if_neg hc] at a3; exact a3.elim
        | _ => exact a3.elim
    | _ => exact a2.elim
/-- o.m(..), o an instance of the class c -/
def eMeth (c : Nat) (m : Str) (F : List D → M D) (fo : DE) (fa : DA) : DE := fun η S => (fo η S).bind fun o S1 => match o with
  | .ref r => (match S1[r]? with
    | some (.ins c' fs) => if c' = c ∧ fs.lookup m = none then (fa η S1).bind fun ds S2 => F (.ref r :: ds) S2 else .bad
    | _ => .bad)
  | _ => .bad
def tMethS (C : Addr) (m : Str) (sp : Sp) (E : St → XK) (ta : TE) (t : TA) : TE := fun σ H Q => ta σ H fun x H1 => ∃ a dx fs, x = .ref a ∧ H1 a = some (.ins C dx fs) ∧ fs.lookup m = none ∧
  t σ H1 fun vs H2 => sp (x :: vs) H2 Q (E σ)
theorem pe_methS {pl : Sem Bool} {o : Expr} {ta : TE} {t : TA} {C f : Addr} {m : Str} {CX : CXT} {k : Nat} {fd : FuncData} {ps : List Str} {sp : Sp} {E : St → XK} {e : Expr} {es : List Expr} {apos pos : Pos} (he : PE X o ta) (c : Cls X.K C) (hm : Meth X.K C m f) (F : FnOk X.prog X.w X.K X.mg X.base CX k f fd ps sp) (hr : Room k X.A) (hb : Binds X.K fd ps []) (hx : ∀ σ, PassesAt CX X σ (E σ)) (ha : PA X (e :: es) t)
    (hst : starEach (e :: es) X.env = (false, eval e X.env) :: starEach es X.env := by rfl) (hpl : (backTo pos (starEach es X.env)).any (·.1) = false := by rfl)
    (ht : eval (.Call (.Attribute o m apos) (e :: es) [] pos) X.env = (do
      let ov ← eval o X.env
      standAt apos.atName
      let (f, first) ← holding [ov] (getMethod ov m pl)
      callWith pos f first (backTo pos (starEach (e :: es) X.env)) (backToKw pos (keywordEach [] X.env))) := by rfl) :
    PE X (.Call (.Attribute o m apos) (e :: es) [] pos) (tMethS C m sp E ta t) := by
  refine ⟨fun pins s σ H Q I h => ?_⟩
  refine PySem.W.methodCall_KW (pl := pl) (thn (he.run pins s σ H _ I h) fun u s1 ⟨x, H1, I1, rx, a, dx, fs, ex, ea, l, q⟩ => ?_) ht
  subst ex
  obtain rfl : u = Value.ref a := rx
  refine getmeth_ok I1 ea c hm l ?_
  refine PySem.W.callWith_K (first := [.ref a]) (h₀ := X.base) I.ok.mod.kin hm.kp (thn (ha.run pos pins s1 σ H1 _ I1 q) fun us s2 ⟨vs, H2, I2, r, q2⟩ => ⟨I2.kIn, ?_⟩) hst hpl
  exact run_fnS (us := .ref a :: us) (vs := .ref a :: vs) F hr hb (hx σ) I2 (.cons rfl r) q2
theorem pe_methS0 {pl : Sem Bool} {o : Expr} {ta : TE} {C f : Addr} {m : Str} {CX : CXT} {k : Nat} {fd : FuncData} {ps : List Str} {sp : Sp} {E : St → XK} {apos pos : Pos} (he : PE X o ta) (c : Cls X.K C) (hm : Meth X.K C m f) (F : FnOk X.prog X.w X.K X.mg X.base CX k f fd ps sp) (hr : Room k X.A) (hb : Binds X.K fd ps []) (hx : ∀ σ, PassesAt CX X σ (E σ))
    (ht : eval (.Call (.Attribute o m apos) [] [] pos) X.env = (do
      let ov ← eval o X.env
      standAt apos.atName
      let (f, first) ← holding [ov] (getMethod ov m pl)
      callWith pos f first (backTo pos (starEach [] X.env)) (backToKw pos (keywordEach [] X.env))) := by rfl) :
    PE X (.Call (.Attribute o m apos) [] [] pos) (tMethS C m sp E ta tNil) := by
  refine ⟨fun pins s σ H Q I h => ?_⟩
  refine PySem.W.methodCall_KW (pl := pl) (thn (he.run pins s σ H _ I h) fun u s1 ⟨x, H1, I1, rx, a, dx, fs, ex, ea, l, q⟩ => ?_) ht
  subst ex
  obtain rfl : u = Value.ref a := rx
  refine getmeth_ok I1 ea c hm l ?_
  exact PySem.W.callWith_K0 (first := [.ref a]) I1.kIn hm.kp (run_fnS (us := [.ref a]) (vs := [.ref a]) F hr hb (hx σ) I1 (.cons rfl .nil) q)
theorem eMeth_up {c : Nat} {m : Str} {n : Nat} {F : List D → M D} {fo : DE} {fa : DA} (hlen : ∀ ds : List D, ∀ S, F ds S = .bad ∨ ds.length = n) {σ : L2.St} {H : Hp} {Q : VK} (h : upE K cls W (eMeth c m F fo fa) σ H Q) :
    tMethS (cls c) m (spD K cls n F) (WE W) (upE K cls W fo) (upA K cls W fa) σ H Q := by
  obtain ⟨η, S, ρ, R, a⟩ := h
  refine upE_go R a fun o v H1 ρ1 S1 e1 R1 r1 a1 => ?_
  cases r1 with
  | ref hr =>
    rename_i a0 r
    have a2 : After K cls W σ H1 ρ1 (match S1[r]? with
      | some (.ins c' fs) => if c' = c ∧ fs.lookup m = none then (fa η S1).bind fun ds S2 => F (.ref r :: ds) S2 else .bad
      | _ => .bad) _ := a1
    cases e : S1[r]? with
    | none => simp only [e] at a2; exact a2.elim
    | some ob =>
      simp only [e] at a2
      cases ob with
      | ins c' fs =>
        dsimp only at a2
        by_cases hc : c' = c ∧ fs.lookup m = none
        · rw [if_pos hc] at a2
          obtain ⟨rfl, hl⟩ := hc
          obtain ⟨dx, vfs, hv, rf⟩ := R1.1.ins hr e
          refine ⟨a0, dx, vfs, rfl, hv, rf.look0 hl, ?_⟩
          refine upA_go R1 a2 fun ds vs H2 ρ2 S2 e2 R2 r2 a3 => ?_
          have rr : RDs K H2 ρ2 (.ref a0 :: vs) (.ref r :: ds) := .cons (.ref (e2.at hr)) r2
          refine ⟨?_, .ref r :: ds, S2, ρ2, R2.1, rr, ?_⟩
          · rcases hlen (.ref r :: ds) S2 with h | h
            · rw [h] at a3; exact a3.elim
            · rw [rr.length]; exact h
          · cases q : F (.ref r :: ds) S2 with
            | bad => rw [q] at a3; exact a3.elim
            | ok d S3 => rw [q] at a3; exact a3
            | err x S3 => rw [q] at a3; exact a3
        · rw [if_neg hc] at a2; exact a2.elim
      | _ => exact a2.elim
  | _ => exact a1.elim
theorem eMeth_up0 {c : Nat} {m : Str} {n : Nat} {F : List D → M D} {fo : DE} (hlen : ∀ ds : List D, ∀ S, F ds S = .bad ∨ ds.length = n) {σ : L2.St} {H : Hp} {Q : VK} (h : upE K cls W (eMeth c m F fo aNil) σ H Q) :
    tMethS (cls c) m (spD K cls n F) (WE W) (upE K cls W fo) tNil σ H Q := by
  obtain ⟨η, S, ρ, R, a⟩ := h
  refine upE_go R a fun o v H1 ρ1 S1 e1 R1 r1 a1 => ?_
  cases r1 with
  | ref hr =>
    rename_i a0 r
    have a2 : After K cls W σ H1 ρ1 (match S1[r]? with
      | some (.ins c' fs) => if c' = c ∧ fs.lookup m = none then (aNil η S1).bind fun ds S2 => F (.ref r :: ds) S2 else .bad
      | _ => .bad) _ := a1
    cases e : S1[r]? with
    | none => simp only [e] at a2; exact a2.elim
    | some ob =>
      simp only [e] at a2
      cases ob with
      | ins c' fs =>
        dsimp only at a2
        by_cases hc : c' = c ∧ fs.lookup m = none
        · rw [if_pos hc] at a2
          obtain ⟨rfl, hl⟩ := hc
          obtain ⟨dx, vfs, hv, rf⟩ := R1.1.ins hr e
          refine ⟨a0, dx, vfs, rfl, hv, rf.look0 hl, ?_⟩
          have a3 : After K cls W σ H1 ρ1 (F [.ref r] S1) _ := a2
          have rr : RDs K H1 ρ1 [.ref a0] [.ref r] := .cons (.ref hr) .nil
          refine ⟨?_, [.ref r], S1, ρ1, R1.1, rr, ?_⟩
          · rcases hlen [.ref r] S1 with h | h
            · rw [h] at a3; exact a3.elim
            · rw [rr.length]; exact h
          · cases q : F [.ref r] S1 with
            | bad => rw [q] at a3; exact a3.elim
            | ok d S3 => rw [q] at a3; exact a3
            | err x S3 => rw [q] at a3; exact a3
        · rw [if_neg hc] at a2; exact a2.elim
      | _ => exact a2.elim
  | _ => exact a1.elim
/-- C(..) -/
def eMake (c : Nat) (F : List D → M D) (fa : DA) : DE := fun η S => (fa η S).bind fun ds S1 => (F (.ref S1.length :: ds) (S1 ++ [.ins c []])).bind fun d S2 => match d with | .non => .ok (.ref S1.length) S2 | _ => .bad
def tMakeS (C : Addr) (sp : Sp) (E : St → XK) (t : TA) : TE := fun σ H Q => t σ H fun vs H1 => ∀ x dx, H1 x = none → H1 dx = none → dx ≠ x →
  sp (.ref x :: vs) (upd (upd H1 dx (.own x)) x (.ins C dx [])) (fun v H2 => v = .non ∧ Q (.ref x) H2) (E σ)
theorem run_makeS {C f : Addr} {CX : CXT} {k : Nat} {fd : FuncData} {ps : List Str} {sp : Sp} {E : XK} {pins : List (Addr × Obj)} {σ : L2.St} {H : Hp} {s : Shared} {Q : VK} {us : List Value} {vs : List V} (M : Mk X.K C f) (F : FnOk X.prog X.w X.K X.mg X.base CX k f fd ps sp) (hr : Room (k + 1) X.A) (hb : Binds X.K fd ps [])
    (hx : PassesAt CX X σ E) (I : Inv X pins σ H s) (r : Vals vs us)
    (h : ∀ x dx, H x = none → H dx = none → dx ≠ x → sp (.ref x :: vs) (upd (upd H dx (.own x)) x (.ins C dx [])) (fun v H2 => v = .non ∧ Q (.ref x) H2) E) :
    wpAny (model X.prog X.w) X.A (call (.ref C) us) (EP X pins σ Q) X.xe s := by
  have hq := h (s.heap.objs.size + 1) s.heap.objs.size (I.hok.fresh (Nat.le_succ _)) (I.hok.fresh (Nat.le_refl _)) (Nat.ne_of_lt (Nat.lt_succ_self _))
  have I2 := Inv.made (C := C) I
  have r2 : Vals (V.ref (s.heap.objs.size + 1) :: vs) (Value.ref (s.heap.objs.size + 1) :: us) := .cons rfl r
  have hl : ((Value.ref (s.heap.objs.size + 1) :: us) ++ []).length = ps.length := by
    rw [List.append_nil]
    have e := r2.length
    rw [F.len _ _ _ _ hq] at e
    exact e.symm
  have hbb := hb { s with heap := (s.heap.push PySem.W.emptyDict).push (PySem.W.instObj C s.heap.objs.size) } (Value.ref (s.heap.objs.size + 1) :: us) I2.kIn hl
  rw [List.append_nil] at hbb
  refine wpAny_call (make_map (f := f) I.kIn M.makes M.init (beq_iff_eq.mp M.fn) (codeAny_mono (F.run _ X.stack _ _ ⟨Value.ref (s.heap.objs.size + 1) :: us, []⟩ (Value.ref (s.heap.objs.size + 1) :: us) _ _ E (hr.make C us [])
    (I2.env0.make C us []) hbb r2 hq) fun r s' hq' => ?_))
  cases r with
  | error e => exact hx pins _ _ e s' I2 hq'
  | ok fl =>
    cases fl with
    | ret u =>
      obtain ⟨v, H', I3, rv, ev, q3⟩ := I2.after hq'
      subst ev
      exact ⟨rv, ⟨V.ref (s.heap.objs.size + 1), H', I3, rfl, q3⟩⟩
    | next => exact False.elim hq'
    | brk => exact False.elim hq'
    | cont => exact False.elim hq'
theorem pe_makeS {C f : Addr} {CX : CXT} {k : Nat} {fd : FuncData} {ps : List Str} {sp : Sp} {E : St → XK} {x : Str} {p pos : Pos} {e : Expr} {es : List Expr} {t : TA} (M : Mk X.K C f) (F : FnOk X.prog X.w X.K X.mg X.base CX k f fd ps sp) (hr : Room (k + 1) X.A) (hg : Gl X x) (hm : X.mg x = some (.ref C)) (hb : Binds X.K fd ps []) (hx : ∀ σ, PassesAt CX X σ (E σ))
    (ha : PA X (e :: es) t) (hdb : (x == ("__debug__" : Str)) = false := by decide) (he : starEach (e :: es) X.env = (false, eval e X.env) :: starEach es X.env := by rfl) (hpl : (backTo pos (starEach es X.env)).any (·.1) = false := by rfl) :
    PE X (.Call (.Name x p) (e :: es) [] pos) (tMakeS C sp E t) := by
  refine ⟨fun pins s σ H Q I h => ?_⟩
  refine wpAny_Call_Name_kw (ld_glob I hg hm ?_ hdb)
  refine PySem.W.callWith_K (h₀ := X.base) I.ok.mod.kin M.kp (thn (ha.run pos pins s σ H _ I h) fun us s1 ⟨vs, H1, I1, r, q⟩ => ⟨I1.kIn, ?_⟩) he hpl
  exact run_makeS M F hr hb (hx σ) I1 r q
theorem eMake_up {c : Nat} {n : Nat} {F : List D → M D} {fa : DA} (hlen : ∀ ds : List D, ∀ S, F ds S = .bad ∨ ds.length = n) {σ : L2.St} {H : Hp} {Q : VK} (h : upE K cls W (eMake c F fa) σ H Q) :
    tMakeS (cls c) (spD K cls n F) (WE W) (upA K cls W fa) σ H Q := by
  obtain ⟨η, S, ρ, R, a⟩ := h
  refine upA_go R a fun ds vs H1 ρ1 S1 e1 R1 r1 a1 => ?_
  intro x dx hx hdx hne
  have hx2 : upd H1 dx (.own x) x = none := by rw [upd_ne (Ne.symm hne)]; exact hx
  have R2 : RS K cls (upd H1 dx (.own x)) ρ1 S1 := R1.1.side hdx
  have e2 : Ext H1 ρ1 (upd H1 dx (.own x)) ρ1 := Ext.side hdx
  have R3 : RS K cls (upd (upd H1 dx (.own x)) x (.ins (cls c) dx [])) (ρ1 ++ [x]) (S1 ++ [.ins c []]) := R2.new hx2 ⟨dx, [], upd_same, .nil⟩
  have e3 : Ext H1 ρ1 (upd (upd H1 dx (.own x)) x (.ins (cls c) dx [])) (ρ1 ++ [x]) := e2.trans (Ext.new R2 hx2)
  have rr : RDs K (upd (upd H1 dx (.own x)) x (.ins (cls c) dx [])) (ρ1 ++ [x]) (.ref x :: vs) (.ref S1.length :: ds) := .cons (.ref (RS.new' R1.1)) (RDs.ext e3 r1)
  have a2 := After.from e3 a1
  refine ⟨?_, .ref S1.length :: ds, S1 ++ [.ins c []], ρ1 ++ [x], R3, rr, ?_⟩
  · rcases hlen (.ref S1.length :: ds) (S1 ++ [.ins c []]) with h | h
    · rw [h] at a2; exact a2.elim
    · rw [rr.length]; exact h
  · cases q : F (.ref S1.length :: ds) (S1 ++ [.ins c []]) with
    | bad => rw [q] at a2; exact a2.elim
    | err x S3 => rw [q] at a2; exact a2
    | ok d S3 =>
      rw [q] at a2
      intro H4 ρ4 e4 R4 v r4
      cases r4 with
      | non => exact ⟨rfl, After.from e4 a2 H4 ρ4 (Ext.refl _ _) R4 _ (.ref (e4.at (RS.new' R1.1)))⟩
      | bl _ => exact a2.elim
      | int _ => exact a2.elim
      | str _ => exact a2.elim
      | tup _ _ => exact a2.elim
      | ref _ => exact a2.elim
      | fro _ _ => exact a2.elim
end
end DL

set_option Elab.async false
set_option linter.all false
set_option maxRecDepth 100000
set_option maxHeartbeats 2000000
/-! The layer's ==, != and in. -/
namespace DL
open PySem PySem.Spec L2
open PyProof.Rows hiding St
open PySem.SeqAt

def eqL (f : D → D → Option Bool) : List D → List D → Option Bool
  | [], [] => some true
  | [], _ :: _ => some false
  | _ :: _, [] => some false
  | x :: xs, y :: ys => match f x y, eqL f xs ys with
    | some a, some b => some (a && b)
    | _, _ => none
/-- == of two things; f: of their items -/
def eqT (S : Store) (f : D → D → Option Bool) : D → D → Option Bool
  | .non, .non => some true
  | .non, .bl _ => some false
  | .non, .int _ => some false
  | .non, .str _ => some false
  | .non, .tup _ => some false
  | .non, .ref q => (match S[q]? with | some (.lst _) => some false | _ => none)
  | .bl _, .non => some false
  | .bl a, .bl b => some (a == b)
  | .bl a, .int b => some ((if a then 1 else 0) == b)
  | .bl _, .str _ => some false
  | .bl _, .tup _ => some false
  | .bl _, .ref q => (match S[q]? with | some (.lst _) => some false | _ => none)
  | .int _, .non => some false
  | .int a, .bl b => some (a == (if b then 1 else 0))
  | .int a, .int b => some (a == b)
  | .int _, .str _ => some false
  | .int _, .tup _ => some false
  | .int _, .ref q => (match S[q]? with | some (.lst _) => some false | _ => none)
  | .str _, .non => some false
  | .str _, .bl _ => some false
  | .str _, .int _ => some false
  | .str a, .str b => some (a == b)
  | .str _, .tup _ => some false
  | .str _, .ref q => (match S[q]? with | some (.lst _) => some false | _ => none)
  | .tup _, .non => some false
  | .tup _, .bl _ => some false
  | .tup _, .int _ => some false
  | .tup _, .str _ => some false
  | .tup a, .tup b => eqL f a b
  | .tup _, .ref q => (match S[q]? with | some (.lst _) => some false | _ => none)
  | .ref r, .ref q => (match S[r]?, S[q]? with | some (.lst a), some (.lst b) => if a.length = b.length then eqL f a b else some false | _, _ => none)
  | .ref r, .tup _ => (match S[r]? with | some (.lst _) => some false | _ => none)
  | .ref _, .fro _ => none
  | .ref r, _ => (match S[r]? with | some (.lst _) => some false | _ => none)
  | _, _ => none
def eqI (S : Store) (f : D → D → Option Bool) (x y : D) : Option Bool := match x, y with
  | .ref r, .ref q => if r = q then some true else eqT S f x y
  | _, _ => eqT S f x y
def eqD (S : Store) : Nat → D → D → Option Bool
  | 0 => eqI S fun _ _ => none
  | n + 1 => eqI S (eqD S n)

section
variable {K : PySem.W.Frag} {cls : Nat → Addr} {W : WX} {X : Cx}

/-! ### a value is one datum alone -/
theorem SqT.tracked {pins : List (Addr × Obj)} {σ : L2.St} {H : Hp} {s : Shared} {a : Addr} {xs : List V} {u : HO} (I : Inv X pins σ H s) (h : SqT X.K H a xs) (hu : H a = some u) : u = .tup xs ∨ ∃ o, u = .frz o (.tup xs) := by
  rcases h with (h | ⟨o, h⟩) | ⟨o, its, n, h, hc, _⟩
  · rw [hu] at h; cases h; exact .inl rfl
  · rw [hu] at h; cases h; exact .inr ⟨o, rfl⟩
  · have hb := I.ok.mod.kin a o h
    have hn := (I.bs a o hb).2
    rw [hu] at hn; cases hn
theorem ref_tup {pins : List (Addr × Obj)} {σ : L2.St} {H : Hp} {s : Shared} {ρ : List Addr} {S : Store} {a : Addr} {r : Nat} {xs : List V} (I : Inv X pins σ H s) (R : RS X.K cls H ρ S) (h : SqT X.K H a xs) (hr : ρ[r]? = some a) : False := by
  have hl : r < S.length := by rw [← R.len]; exact (List.getElem?_eq_some_iff.mp hr).1
  obtain ⟨a', e, q⟩ := R.ob r S[r] (getq hl)
  rw [hr] at e; cases e
  cases ho : S[r] with
  | lst l => rw [ho] at q; obtain ⟨vs, q, _⟩ := q; rcases SqT.tracked I h q with z | ⟨o, z⟩ <;> cases z
  | dic l => rw [ho] at q; obtain ⟨vs, q, _⟩ := q; rcases SqT.tracked I h q with z | ⟨o, z⟩ <;> cases z
  | ins c l => rw [ho] at q; obtain ⟨dx, vs, q, _⟩ := q; rcases SqT.tracked I h q with z | ⟨o, z⟩ <;> cases z
theorem fro_tup {pins : List (Addr × Obj)} {σ : L2.St} {H : Hp} {s : Shared} {a : Addr} {xs ys : List V} (I : Inv X pins σ H s) (h : SqF X.K H a xs) (h' : SqT X.K H a ys) : False := by
  obtain ⟨its, _, p, _⟩ := I.list h.sq
  obtain ⟨its2, _, ⟨o, e, hc, _⟩, _⟩ := I.tuple h'
  obtain ⟨o', e', hc', _⟩ := p.isList
  rw [e] at e'; cases e'
  rw [hc] at hc'
  injection hc' with z
  exact absurd z (by decide)
theorem ref_fro {pins : List (Addr × Obj)} {σ : L2.St} {H : Hp} {s : Shared} {ρ : List Addr} {S : Store} {a : Addr} {r : Nat} {xs : List V} (I : Inv X pins σ H s) (R : RS X.K cls H ρ S) (h : SqF X.K H a xs) (hr : ρ[r]? = some a) : False := by
  have hl : r < S.length := by rw [← R.len]; exact (List.getElem?_eq_some_iff.mp hr).1
  obtain ⟨a', e, q⟩ := R.ob r S[r] (getq hl)
  rw [hr] at e; cases e
  have nf : ∀ u, H a = some u → ∃ o, u = .frz o (.lst xs) := by
    intro u hu
    rcases h with ⟨o, h⟩ | ⟨o, its, n, h, hc, _⟩
    · rw [hu] at h; cases h; exact ⟨o, rfl⟩
    · have hb := I.ok.mod.kin a o h
      have hn := (I.bs a o hb).2
      rw [hu] at hn; cases hn
  cases ho : S[r] with
  | lst l => rw [ho] at q; obtain ⟨vs, q, _⟩ := q; obtain ⟨o, z⟩ := nf _ q; cases z
  | dic l => rw [ho] at q; obtain ⟨vs, q, _⟩ := q; obtain ⟨o, z⟩ := nf _ q; cases z
  | ins c l => rw [ho] at q; obtain ⟨dx, vs, q, _⟩ := q; obtain ⟨o, z⟩ := nf _ q; cases z
mutual
theorem RD.inj {pins : List (Addr × Obj)} {σ : L2.St} {H : Hp} {s : Shared} {ρ : List Addr} {S : Store} (I : Inv X pins σ H s) (R : RS X.K cls H ρ S) : ∀ {v : V} {d d' : D}, RD X.K H ρ v d → RD X.K H ρ v d' → d = d'
  | _, _, _, .non, .non => rfl
  | _, _, _, .bl _, .bl _ => rfl
  | _, _, _, .int _, .int _ => rfl
  | _, _, _, .str _, .str _ => rfl
  | _, _, _, .tup h t, .tup h' t' => by
    have e := I.tuple_inj h h'
    subst e
    rw [RDs.inj I R t t']
  | _, _, _, .tup h t, .ref h' => (ref_tup I R h h').elim
  | _, _, _, .ref h, .tup h' t' => (ref_tup I R h' h).elim
  | _, _, _, .fro h t, .fro h' t' => by
    have e := I.list_inj h.sq h'.sq
    subst e
    rw [RDs.inj I R t t']
  | _, _, _, .fro h t, .tup h' t' => (fro_tup I h h').elim
  | _, _, _, .tup h' t', .fro h t => (fro_tup I h h').elim
  | _, _, _, .fro h t, .ref h' => (ref_fro I R h h').elim
  | _, _, _, .ref h', .fro h t => (ref_fro I R h h').elim
  | _, _, _, .ref h, .ref h' => by
    have e := (List.getElem?_inj (List.getElem?_eq_some_iff.mp h).1 R.nd).mp (h.trans h'.symm)
    rw [e]
theorem RDs.inj {pins : List (Addr × Obj)} {σ : L2.St} {H : Hp} {s : Shared} {ρ : List Addr} {S : Store} (I : Inv X pins σ H s) (R : RS X.K cls H ρ S) : ∀ {vs : List V} {ds ds' : List D}, RDs X.K H ρ vs ds → RDs X.K H ρ vs ds' → ds = ds'
  | _, _, _, .nil, .nil => rfl
  | _, _, _, .cons h t, .cons h' t' => by rw [RD.inj I R h h', RDs.inj I R t t']
end
theorem eqL_same {f : D → D → Option Bool} (hf : ∀ x b, f x x = some b → b = true) : ∀ {xs : List D} {b : Bool}, eqL f xs xs = some b → b = true
  | [], _, h => by cases h; rfl
  | x :: xs, b, h => by
    unfold eqL at h
    cases e1 : f x x with
    | none => rw [e1] at h; cases h
    | some a =>
      cases e2 : eqL f xs xs with
      | none => rw [e1, e2] at h; cases h
      | some c =>
        rw [e1, e2] at h; cases h
        rw [hf x a e1, eqL_same hf e2]; rfl
theorem eqI_same {S : Store} {f : D → D → Option Bool} (hf : ∀ x b, f x x = some b → b = true) {x : D} {b : Bool} (h : eqI S f x x = some b) : b = true := by
  cases x with
  | non => cases h; rfl
  | bl a => have h' : some (a == a) = some b := h; simpa using h'.symm
  | int a => have h' : some (a == a) = some b := h; simpa using h'.symm
  | str a => have h' : some (a == a) = some b := h; simpa using h'.symm
  | tup l => exact eqL_same hf h
  | fro l => cases h
  | ref r =>
    have h' : (if r = r then some true else eqT S f (.ref r) (.ref r)) = some b := h
    rw [if_pos rfl] at h'; cases h'; rfl
theorem eqD_same {S : Store} : ∀ (n : Nat) {x : D} {b : Bool}, eqD S n x x = some b → b = true
  | 0, _, _, h => eqI_same (f := fun _ _ => none) (fun _ _ z => by cases z) h
  | n + 1, _, _, h => eqI_same (f := eqD S n) (fun _ _ z => eqD_same n z) h

/-! ### what the machine does -/
def eJ (f : D → D → Option Bool) (xs ys : List D) (j : Nat) : Bool := (f (xs.getD j .non) (ys.getD j .non)).getD false
theorem eqL_spec {f : D → D → Option Bool} : ∀ {xs ys : List D} {b : Bool}, eqL f xs ys = some b →
    (∀ (j : Nat) (x y : D), xs[j]? = some x → ys[j]? = some y → f x y = some (eJ f xs ys j)) ∧ b = ((List.range (min xs.length ys.length)).all (eJ f xs ys) && xs.length == ys.length)
  | [], [], b, h => by cases h; exact ⟨fun j x y h => by simp at h, by simp⟩
  | [], _ :: _, b, h => by cases h; exact ⟨fun j x y h => by simp at h, by simp⟩
  | _ :: _, [], b, h => by cases h; exact ⟨fun j x y _ h => by simp at h, by simp⟩
  | x :: xs, y :: ys, b, h => by
    unfold eqL at h
    cases e1 : f x y with
    | none => rw [e1] at h; cases h
    | some a =>
      cases e2 : eqL f xs ys with
      | none => rw [e1, e2] at h; cases h
      | some c =>
        rw [e1, e2] at h
        cases h
        obtain ⟨h1, h2⟩ := eqL_spec e2
        refine ⟨fun j u w hu hw => ?_, ?_⟩
        · cases j with
          | zero =>
            simp at hu hw
            subst hu hw
            simp [eJ, e1]
          | succ j =>
            have := h1 j u w (by simpa using hu) (by simpa using hw)
            simpa [eJ] using this
        · have hm : min (x :: xs).length (y :: ys).length = min xs.length ys.length + 1 := by simp [Nat.succ_min_succ]
          rw [hm, List.range_succ_eq_map, List.all_cons, List.all_map]
          have e0 : eJ f (x :: xs) (y :: ys) 0 = a := by simp [eJ, e1]
          have es : (eJ f (x :: xs) (y :: ys) ∘ Nat.succ) = eJ f xs ys := by
            funext j; simp [eJ]
          rw [e0, es, h2]
          simp [Bool.and_assoc]
variable {pins : List (Addr × Obj)} {σ : L2.St} {H : Hp} {s : Shared} {ρ : List Addr} {S : Store}
theorem isTuple_of (I : Inv X pins σ H s) {a : Addr} {vs : List V} (h : SqT X.K H a vs) : ∃ its : List Value, Vals vs its ∧ s.heap.IsTuple a its.toArray := by
  obtain ⟨its, r, p, _⟩ := I.tuple h
  exact ⟨its, r, p⟩
theorem isList_of (I : Inv X pins σ H s) {a : Addr} {vs : List V} (h : H a = some (.lst vs)) : ∃ its : List Value, Vals vs its ∧ s.heap.IsList a its.toArray := by
  obtain ⟨its, r, p, _⟩ := I.list (SqL.of h)
  exact ⟨its, r, p.isList⟩
/-- == and != of two values, when == of their items is known -/
theorem rc_T (I : Inv X pins σ H s) (R : RS X.K cls H ρ S) {A : Around} (hu : A.units < cLine) {f : D → D → Option Bool}
    (hf : ∀ (x y : D) (v w : V) (u u' : Value) (b : Bool), RD X.K H ρ v x → RD X.K H ρ w y → RelV v u → RelV w u' → f x y = some b → EqAt A.in1 s u u' b)
    {x y : D} {v w : V} {u u' : Value} {b : Bool} (r1 : RD X.K H ρ v x) (r2 : RD X.K H ρ w y) (q1 : RelV v u) (q2 : RelV w u') (h : eqT S f x y = some b) : RcAt A s u u' b ∧ RcNeAt A s u u' (!b) := by
  have lstOf : ∀ {a : Addr} {r : Nat} {c : Bool}, ρ[r]? = some a → (match S[r]? with | some (.lst _) => some false | _ => none) = some c → c = false ∧ ∃ its : List Value, s.heap.IsList a its.toArray := by
    intro a r c hr hc
    cases e : S[r]? with
    | none => simp only [e] at hc; cases hc
    | some o =>
      simp only [e] at hc
      cases o with
      | lst l =>
        cases hc
        obtain ⟨vs, hv, _⟩ := R.lst hr e
        obtain ⟨its, _, p⟩ := isList_of I hv
        exact ⟨rfl, its, p⟩
      | _ => cases hc
  have nf1 : ∀ l, x = .fro l → False := by
    rintro l rfl
    cases y <;> cases h
  have nf2 : ∀ l, y = .fro l → False := by
    rintro l rfl
    cases x <;> cases h
  cases r1 with
  | fro _ _ => exact (nf1 _ rfl).elim
  | non =>
    cases q1
    cases r2 with
    | fro _ _ => exact (nf2 _ rfl).elim
    | non => cases q2; cases h; exact ⟨RcAt.none_none, RcNeAt.none_none⟩
    | bl j => cases q2; cases h; exact ⟨RcAt.none_bool j, RcNeAt.none_bool j⟩
    | int j => obtain ⟨t, rfl⟩ := q2; cases h; exact ⟨RcAt.none_int j t, RcNeAt.none_int j t⟩
    | str j => obtain ⟨t, rfl⟩ := q2; cases h; exact ⟨RcAt.none_str j t, RcNeAt.none_str j t⟩
    | tup h2 _ => cases q2; cases h; obtain ⟨its, _, p⟩ := isTuple_of I h2; exact ⟨RcAt.none_tuple p hu, RcNeAt.none_tuple p hu⟩
    | ref h2 => cases q2; obtain ⟨rfl, its, p⟩ := lstOf h2 h; exact ⟨RcAt.none_list p hu, RcNeAt.none_list p hu⟩
  | bl i =>
    cases q1
    cases r2 with
    | fro _ _ => exact (nf2 _ rfl).elim
    | non => cases q2; cases h; exact ⟨RcAt.bool_none i, RcNeAt.bool_none i⟩
    | bl j => cases q2; cases h; exact ⟨RcAt.bool_bool i j, RcNeAt.bool_bool i j⟩
    | int j => obtain ⟨t, rfl⟩ := q2; cases h; exact ⟨RcAt.bool_int i j t, RcNeAt.bool_int i j t⟩
    | str j => obtain ⟨t, rfl⟩ := q2; cases h; exact ⟨RcAt.bool_str i j t, RcNeAt.bool_str i j t⟩
    | tup h2 _ => cases q2; cases h; obtain ⟨its, _, p⟩ := isTuple_of I h2; exact ⟨RcAt.bool_tuple i p hu, RcNeAt.bool_tuple i p hu⟩
    | ref h2 => cases q2; obtain ⟨rfl, its, p⟩ := lstOf h2 h; exact ⟨RcAt.bool_list i p hu, RcNeAt.bool_list i p hu⟩
  | int i =>
    obtain ⟨t, rfl⟩ := q1
    cases r2 with
    | fro _ _ => exact (nf2 _ rfl).elim
    | non => cases q2; cases h; exact ⟨RcAt.int_none i t, RcNeAt.int_none i t⟩
    | bl j => cases q2; cases h; exact ⟨RcAt.int_bool i t j, RcNeAt.int_bool i t j⟩
    | int j => obtain ⟨t', rfl⟩ := q2; cases h; exact ⟨RcAt.int_int i t j t', RcNeAt.int_int i t j t'⟩
    | str j => obtain ⟨t', rfl⟩ := q2; cases h; exact ⟨RcAt.int_str i t j t', RcNeAt.int_str i t j t'⟩
    | tup h2 _ => cases q2; cases h; obtain ⟨its, _, p⟩ := isTuple_of I h2; exact ⟨RcAt.int_tuple i t p hu, RcNeAt.int_tuple i t p hu⟩
    | ref h2 => cases q2; obtain ⟨rfl, its, p⟩ := lstOf h2 h; exact ⟨RcAt.int_list i t p hu, RcNeAt.int_list i t p hu⟩
  | str i =>
    obtain ⟨t, rfl⟩ := q1
    cases r2 with
    | fro _ _ => exact (nf2 _ rfl).elim
    | non => cases q2; cases h; exact ⟨RcAt.str_none i t, RcNeAt.str_none i t⟩
    | bl j => cases q2; cases h; exact ⟨RcAt.str_bool i t j, RcNeAt.str_bool i t j⟩
    | int j => obtain ⟨t', rfl⟩ := q2; cases h; exact ⟨RcAt.str_int i t j t', RcNeAt.str_int i t j t'⟩
    | str j => obtain ⟨t', rfl⟩ := q2; cases h; exact ⟨RcAt.str_str i t j t', RcNeAt.str_str i t j t'⟩
    | tup h2 _ => cases q2; cases h; obtain ⟨its, _, p⟩ := isTuple_of I h2; exact ⟨RcAt.str_tuple i t p hu, RcNeAt.str_tuple i t p hu⟩
    | ref h2 => cases q2; obtain ⟨rfl, its, p⟩ := lstOf h2 h; exact ⟨RcAt.str_list i t p hu, RcNeAt.str_list i t p hu⟩
  | tup h1 t1 =>
    rename_i a vs l
    cases q1
    obtain ⟨its, rv, p1⟩ := isTuple_of I h1
    cases r2 with
    | fro _ _ => exact (nf2 _ rfl).elim
    | non => cases q2; cases h; exact ⟨RcAt.tuple_none p1 hu, RcNeAt.tuple_none p1 hu⟩
    | bl j => cases q2; cases h; exact ⟨RcAt.tuple_bool j p1 hu, RcNeAt.tuple_bool j p1 hu⟩
    | int j => obtain ⟨t', rfl⟩ := q2; cases h; exact ⟨RcAt.tuple_int j t' p1 hu, RcNeAt.tuple_int j t' p1 hu⟩
    | str j => obtain ⟨t', rfl⟩ := q2; cases h; exact ⟨RcAt.tuple_str j t' p1 hu, RcNeAt.tuple_str j t' p1 hu⟩
    | ref h2 => cases q2; obtain ⟨rfl, its, p⟩ := lstOf h2 h; exact ⟨RcAt.tuple_list p1 p hu, RcNeAt.tuple_list p1 p hu⟩
    | tup h2 t2 =>
      rename_i a' ws m
      cases q2
      obtain ⟨its2, rw', p2⟩ := isTuple_of I h2
      have h' : eqL f l m = some b := h
      obtain ⟨e1, e2⟩ := eqL_spec h'
      have s1 : its.toArray.size = l.length := by rw [List.size_toArray, ← rv.length, t1.length]
      have s2 : its2.toArray.size = m.length := by rw [List.size_toArray, ← rw'.length, t2.length]
      have he : ∀ j (h1 : j < its.toArray.size) (h2 : j < its2.toArray.size), EqAt A.in1 s its.toArray[j] its2.toArray[j] (eJ f l m j) := by
        intro j j1 j2
        have j1' : j < l.length := by rw [← s1]; exact j1
        have j2' : j < m.length := by rw [← s2]; exact j2
        obtain ⟨v0, hv0, rd0⟩ := RDs.get' t1 (getq j1')
        obtain ⟨w0, hw0, rd1⟩ := RDs.get' t2 (getq j2')
        obtain ⟨u0, hu0, rl0⟩ := Vals.get rv hv0
        obtain ⟨u1, hu1, rl1⟩ := Vals.get rw' hw0
        have z1 : its.toArray[j] = u0 := by
          have := (List.getElem?_eq_some_iff.mp hu0).2
          simpa using this
        have z2 : its2.toArray[j] = u1 := by
          have := (List.getElem?_eq_some_iff.mp hu1).2
          simpa using this
        rw [z1, z2]
        exact hf _ _ _ _ _ _ _ rd0 rd1 rl0 rl1 (e1 j _ _ (getq j1') (getq j2'))
      subst e2
      rw [← s1, ← s2]
      exact ⟨RcAt.tuples p1 p2 hu he, RcNeAt.tuples p1 p2 hu he⟩
  | ref h1 =>
    rename_i a r
    cases q1
    cases r2 with
    | fro _ _ => exact (nf2 _ rfl).elim
    | non => cases q2; obtain ⟨rfl, its, p⟩ := lstOf h1 h; exact ⟨RcAt.list_none p hu, RcNeAt.list_none p hu⟩
    | bl j => cases q2; obtain ⟨rfl, its, p⟩ := lstOf h1 h; exact ⟨RcAt.list_bool j p hu, RcNeAt.list_bool j p hu⟩
    | int j => obtain ⟨t', rfl⟩ := q2; obtain ⟨rfl, its, p⟩ := lstOf h1 h; exact ⟨RcAt.list_int j t' p hu, RcNeAt.list_int j t' p hu⟩
    | str j => obtain ⟨t', rfl⟩ := q2; obtain ⟨rfl, its, p⟩ := lstOf h1 h; exact ⟨RcAt.list_str j t' p hu, RcNeAt.list_str j t' p hu⟩
    | tup h2 _ => cases q2; obtain ⟨rfl, its, p⟩ := lstOf h1 h; obtain ⟨its2, _, p2⟩ := isTuple_of I h2; exact ⟨RcAt.list_tuple p p2 hu, RcNeAt.list_tuple p p2 hu⟩
    | ref h2 =>
      rename_i a' r'
      cases q2
      have h' : (match S[r]?, S[r']? with | some (.lst a), some (.lst b) => if a.length = b.length then eqL f a b else some false | _, _ => none) = some b := h
      cases e1 : S[r]? with
      | none => simp only [e1] at h'; cases h'
      | some o1 =>
        cases e2 : S[r']? with
        | none => simp only [e1, e2] at h'; cases o1 <;> cases h'
        | some o2 =>
          simp only [e1, e2] at h'
          cases o1 with
          | lst l =>
            cases o2 with
            | lst m =>
              dsimp only at h'
              obtain ⟨vs, hv, t1⟩ := R.lst h1 e1
              obtain ⟨ws, hw, t2⟩ := R.lst h2 e2
              obtain ⟨its, rv, p1⟩ := isList_of I hv
              obtain ⟨its2, rw', p2⟩ := isList_of I hw
              have s1 : its.toArray.size = l.length := by rw [List.size_toArray, ← rv.length, t1.length]
              have s2 : its2.toArray.size = m.length := by rw [List.size_toArray, ← rw'.length, t2.length]
              by_cases hl : l.length = m.length
              · rw [if_pos hl] at h'
                obtain ⟨f1, f2⟩ := eqL_spec h'
                have he : ∀ j (h1 : j < its.toArray.size) (h2 : j < its2.toArray.size), EqAt A.in1 s its.toArray[j] its2.toArray[j] (eJ f l m j) := by
                  intro j j1 j2
                  have j1' : j < l.length := by rw [← s1]; exact j1
                  have j2' : j < m.length := by rw [← s2]; exact j2
                  obtain ⟨v0, hv0, rd0⟩ := RDs.get' t1 (getq j1')
                  obtain ⟨w0, hw0, rd1⟩ := RDs.get' t2 (getq j2')
                  obtain ⟨u0, hu0, rl0⟩ := Vals.get rv hv0
                  obtain ⟨u1, hu1, rl1⟩ := Vals.get rw' hw0
                  have z1 : its.toArray[j] = u0 := by
                    have := (List.getElem?_eq_some_iff.mp hu0).2
                    simpa using this
                  have z2 : its2.toArray[j] = u1 := by
                    have := (List.getElem?_eq_some_iff.mp hu1).2
                    simpa using this
                  rw [z1, z2]
                  exact hf _ _ _ _ _ _ _ rd0 rd1 rl0 rl1 (f1 j _ _ (getq j1') (getq j2'))
                have hb : b = (List.range its.toArray.size).all (eJ f l m) := by
                  rw [f2, s1, hl]; simp
                have sz : its.toArray.size = its2.toArray.size := by rw [s1, s2, hl]
                rw [hb]
                exact ⟨RcAt.lists p1 p2 sz hu he, RcNeAt.lists p1 p2 sz hu he⟩
              · rw [if_neg hl] at h'; cases h'
                have sz : (its.toArray.size != its2.toArray.size) = true := by rw [s1, s2]; simpa using hl
                exact ⟨RcAt.lists_lengths p1 p2 sz hu, RcNeAt.lists_lengths p1 p2 sz hu⟩
            | _ => cases h'
          | _ => cases h'
theorem eqAt_T (I : Inv X pins σ H s) (R : RS X.K cls H ρ S) {A : Around} (hu : A.units < cLine) {f : D → D → Option Bool}
    (hf : ∀ (x y : D) (v w : V) (u u' : Value) (b : Bool), RD X.K H ρ v x → RD X.K H ρ w y → RelV v u → RelV w u' → f x y = some b → EqAt A.in1 s u u' b)
    {x y : D} {v w : V} {u u' : Value} {b : Bool} (r1 : RD X.K H ρ v x) (r2 : RD X.K H ρ w y) (q1 : RelV v u) (q2 : RelV w u') (h : eqT S f x y = some b) (hs : x = y → b = true) : EqAt A s u u' b := by
  have rc := (rc_T I R hu hf r1 r2 q1 q2 h).1
  have lstOf : ∀ {a : Addr} {r : Nat} {c : Bool}, ρ[r]? = some a → (match S[r]? with | some (.lst _) => some false | _ => none) = some c → c = false ∧ ∃ its : List Value, s.heap.IsList a its.toArray := by
    intro a r c hr hc
    cases e : S[r]? with
    | none => simp only [e] at hc; cases hc
    | some o =>
      simp only [e] at hc
      cases o with
      | lst l =>
        cases hc
        obtain ⟨vs, hv, _⟩ := R.lst hr e
        obtain ⟨its, _, p⟩ := isList_of I hv
        exact ⟨rfl, its, p⟩
      | _ => cases hc
  have refs : ∀ {a a' : Addr}, u = .ref a → u' = .ref a' → v = .ref a → w = .ref a' → EqAt A s u u' b := by
    intro a a' e1 e2 e3 e4
    subst e1 e2 e3 e4
    by_cases e : a = a'
    · subst e
      have : x = y := RD.inj I R r1 r2
      rw [hs this]
      exact EqAt.same _
    · exact EqAt.of_refs e rc
  have nf1 : ∀ l, x = .fro l → False := by
    rintro l rfl
    cases y <;> cases h
  have nf2 : ∀ l, y = .fro l → False := by
    rintro l rfl
    cases x <;> cases h
  cases r1 with
  | fro _ _ => exact (nf1 _ rfl).elim
  | non =>
    cases q1
    cases r2 with
    | fro _ _ => exact (nf2 _ rfl).elim
    | non => cases q2; cases h; exact EqAt.same _
    | bl j => cases q2; cases h; exact EqAt.none_bool j
    | int j => obtain ⟨t, rfl⟩ := q2; cases h; exact EqAt.none_int j t
    | str j => obtain ⟨t, rfl⟩ := q2; cases h; exact EqAt.none_str j t
    | tup h2 _ => cases q2; cases h; obtain ⟨its, _, p⟩ := isTuple_of I h2; exact EqAt.none_tuple p hu
    | ref h2 => cases q2; obtain ⟨rfl, its, p⟩ := lstOf h2 h; exact EqAt.none_list p hu
  | bl i =>
    cases q1
    cases r2 with
    | fro _ _ => exact (nf2 _ rfl).elim
    | non => cases q2; cases h; exact EqAt.bool_none i
    | bl j => cases q2; cases h; exact EqAt.bool_bool i j
    | int j => obtain ⟨t, rfl⟩ := q2; cases h; exact EqAt.bool_int i j t
    | str j => obtain ⟨t, rfl⟩ := q2; cases h; exact EqAt.bool_str i j t
    | tup h2 _ => cases q2; cases h; obtain ⟨its, _, p⟩ := isTuple_of I h2; exact EqAt.bool_tuple i p hu
    | ref h2 => cases q2; obtain ⟨rfl, its, p⟩ := lstOf h2 h; exact EqAt.bool_list i p hu
  | int i =>
    obtain ⟨t, rfl⟩ := q1
    cases r2 with
    | fro _ _ => exact (nf2 _ rfl).elim
    | non => cases q2; cases h; exact EqAt.int_none i t
    | bl j => cases q2; cases h; exact EqAt.int_bool i t j
    | int j => obtain ⟨t', rfl⟩ := q2; cases h; exact EqAt.int_int i t j t'
    | str j => obtain ⟨t', rfl⟩ := q2; cases h; exact EqAt.int_str i t j t'
    | tup h2 _ => cases q2; cases h; obtain ⟨its, _, p⟩ := isTuple_of I h2; exact EqAt.int_tuple i t p hu
    | ref h2 => cases q2; obtain ⟨rfl, its, p⟩ := lstOf h2 h; exact EqAt.int_list i t p hu
  | str i =>
    obtain ⟨t, rfl⟩ := q1
    cases r2 with
    | fro _ _ => exact (nf2 _ rfl).elim
    | non => cases q2; cases h; exact EqAt.str_none i t
    | bl j => cases q2; cases h; exact EqAt.str_bool i t j
    | int j => obtain ⟨t', rfl⟩ := q2; cases h; exact EqAt.str_int i t j t'
    | str j => obtain ⟨t', rfl⟩ := q2; cases h; exact EqAt.str_str i t j t'
    | tup h2 _ => cases q2; cases h; obtain ⟨its, _, p⟩ := isTuple_of I h2; exact EqAt.str_tuple i t p hu
    | ref h2 => cases q2; obtain ⟨rfl, its, p⟩ := lstOf h2 h; exact EqAt.str_list i t p hu
  | tup h1 t1 =>
    cases q1
    obtain ⟨its, rv, p1⟩ := isTuple_of I h1
    cases r2 with
    | fro _ _ => exact (nf2 _ rfl).elim
    | non => cases q2; cases h; exact EqAt.tuple_none p1 hu
    | bl j => cases q2; cases h; exact EqAt.tuple_bool j p1 hu
    | int j => obtain ⟨t', rfl⟩ := q2; cases h; exact EqAt.tuple_int j t' p1 hu
    | str j => obtain ⟨t', rfl⟩ := q2; cases h; exact EqAt.tuple_str j t' p1 hu
    | ref h2 => cases q2; exact refs rfl rfl rfl rfl
    | tup h2 t2 => cases q2; exact refs rfl rfl rfl rfl
  | ref h1 =>
    cases q1
    cases r2 with
    | fro _ _ => exact (nf2 _ rfl).elim
    | non => cases q2; obtain ⟨rfl, its, p⟩ := lstOf h1 h; exact EqAt.list_none p hu
    | bl j => cases q2; obtain ⟨rfl, its, p⟩ := lstOf h1 h; exact EqAt.list_bool j p hu
    | int j => obtain ⟨t', rfl⟩ := q2; obtain ⟨rfl, its, p⟩ := lstOf h1 h; exact EqAt.list_int j t' p hu
    | str j => obtain ⟨t', rfl⟩ := q2; obtain ⟨rfl, its, p⟩ := lstOf h1 h; exact EqAt.list_str j t' p hu
    | tup h2 _ => cases q2; exact refs rfl rfl rfl rfl
    | ref h2 => cases q2; exact refs rfl rfl rfl rfl
theorem in1_units (A : Around) : A.in1.units = A.units + 1 := rfl
theorem eqAt_D (I : Inv X pins σ H s) (R : RS X.K cls H ρ S) : ∀ (n : Nat) (A : Around) (x y : D) (v w : V) (u u' : Value) (b : Bool), A.units + n < cLine → RD X.K H ρ v x → RD X.K H ρ w y → RelV v u → RelV w u' → eqD S n x y = some b → EqAt A s u u' b := by
  intro n
  induction n with
  | zero =>
    intro A x y v w u u' b hu r1 r2 q1 q2 h
    by_cases hxy : ∃ r, x = .ref r ∧ y = .ref r
    · obtain ⟨r, rfl, rfl⟩ := hxy
      have := eqD_same 0 h
      subst this
      cases r1 with
      | ref h1 =>
        cases r2 with
        | ref h2 =>
          rw [h1] at h2; cases h2
          cases q1; cases q2
          exact EqAt.same _
    · have h' : eqT S (fun _ _ => none) x y = some b := by
        cases x <;> cases y <;> first
          | exact h
          | (rename_i r q
             have h2 : (if r = q then some true else eqT S (fun _ _ => none) (.ref r) (.ref q)) = some b := h
             by_cases e : r = q
             · exact absurd ⟨r, rfl, by rw [e]⟩ hxy
             · rw [if_neg e] at h2; exact h2)
      exact eqAt_T I R (by omega) (fun x y v w u u' b _ _ _ _ z => by cases z) r1 r2 q1 q2 h' fun e => by subst e; exact eqD_same 0 h
  | succ n ih =>
    intro A x y v w u u' b hu r1 r2 q1 q2 h
    by_cases hxy : ∃ r, x = .ref r ∧ y = .ref r
    · obtain ⟨r, rfl, rfl⟩ := hxy
      have := eqD_same (n + 1) h
      subst this
      cases r1 with
      | ref h1 =>
        cases r2 with
        | ref h2 =>
          rw [h1] at h2; cases h2
          cases q1; cases q2
          exact EqAt.same _
    · have h' : eqT S (eqD S n) x y = some b := by
        cases x <;> cases y <;> first
          | exact h
          | (rename_i r q
             have h2 : (if r = q then some true else eqT S (eqD S n) (.ref r) (.ref q)) = some b := h
             by_cases e : r = q
             · exact absurd ⟨r, rfl, by rw [e]⟩ hxy
             · rw [if_neg e] at h2; exact h2)
      exact eqAt_T I R (by omega) (fun x y v w u u' b r1 r2 q1 q2 z => ih A.in1 x y v w u u' b (by rw [in1_units]; omega) r1 r2 q1 q2 z) r1 r2 q1 q2 h' fun e => by subst e; exact eqD_same (n + 1) h

/-! ### the rules -/
def deep : Nat := 100
def pEq : P2 := fun x y S => (eqT S (eqD S deep) x y).map fun b => (.bl b, S)
def pNe : P2 := fun x y S => (eqT S (eqD S deep) x y).map fun b => (.bl (!b), S)
theorem op_pEq (hu : X.A.units + 200 < cLine) : OpR X (compareOp .Eq) (upO2 X.K cls pEq) := by
  intro pins s σ H x y v u Q I rx ry q
  obtain ⟨dx, dy, S, ρ, d, S', R, r1, r2, hg, q⟩ := q
  unfold pEq at hg
  cases e : eqT S (eqD S deep) dx dy with
  | none => rw [e] at hg; cases hg
  | some b =>
    rw [e] at hg; cases hg
    exact (rc_T I R (A := X.A) (by omega) (fun x y v w u u' b r1 r2 q1 q2 z => eqAt_D I R deep X.A.in1 x y v w u u' b (by rw [in1_units]; unfold deep; omega) r1 r2 q1 q2 z) r1 r2 rx ry e).1 _ _ _ _ ⟨.bl b, H, I, rfl, q H ρ _ (Ext.refl _ _) R (.bl _)⟩
theorem op_pNe (hu : X.A.units + 200 < cLine) : OpR X (compareOp .NotEq) (upO2 X.K cls pNe) := by
  intro pins s σ H x y v u Q I rx ry q
  obtain ⟨dx, dy, S, ρ, d, S', R, r1, r2, hg, q⟩ := q
  unfold pNe at hg
  cases e : eqT S (eqD S deep) dx dy with
  | none => rw [e] at hg; cases hg
  | some b =>
    rw [e] at hg; cases hg
    exact (rc_T I R (A := X.A) (by omega) (fun x y v w u u' b r1 r2 q1 q2 z => eqAt_D I R deep X.A.in1 x y v w u u' b (by rw [in1_units]; unfold deep; omega) r1 r2 q1 q2 z) r1 r2 rx ry e).2 _ _ _ _ ⟨.bl (!b), H, I, rfl, q H ρ _ (Ext.refl _ _) R (.bl _)⟩
/-- whether one of a list's items is a thing -/
def anyD (S : Store) (x : D) : List D → Option Bool
  | [] => some false
  | y :: ys => match eqD S deep y x, anyD S x ys with
    | some a, some b => some (a || b)
    | _, _ => none
def inD (x y : D) (S : Store) : Option Bool := match x, y with
  | .str a, .str b => some (!(Builtin.Str.occurrences b a 0 b.length 1).isEmpty)
  | x, y => (match seqOf y S with | some l => anyD S x l | none => none)
def pIn : P2 := fun x y S => (inD x y S).map fun b => (.bl b, S)
def pNotIn : P2 := fun x y S => (inD x y S).map fun b => (.bl (!b), S)
theorem anyD_go (I : Inv X pins σ H s) (R : RS X.K cls H ρ S) {A : Around} (hu : A.units + 1 + deep < cLine) {x : D} {v : V} {u : Value} (r : RD X.K H ρ v x) (q : RelV v u) {e : Value → Bool}
    (he : ∀ (y : Value) (w : V) (d : D), RelV w y → RD X.K H ρ w d → e y = (eqD S deep d x).getD false) : ∀ {vs : List V} {l : List D} {us : List Value} {b : Bool}, RDs X.K H ρ vs l → Vals vs us → anyD S x l = some b → (∀ y ∈ us, EqAt A.in1 s y u (e y)) ∧ us.any e = b
  | _, _, _, _, .nil, .nil, h => by cases h; exact ⟨by simp, rfl⟩
  | _, _, _, b, .cons (v := v0) (d := d0) (ds := ds0) r1 t, .cons (b := u0) q1 vl, h => by
    unfold anyD at h
    cases e1 : eqD S deep d0 x with
    | none => rw [e1] at h; cases h
    | some a =>
      cases e2 : anyD S x ds0 with
      | none => rw [e1, e2] at h; cases h
      | some c =>
        rw [e1, e2] at h; cases h
        obtain ⟨h1, h2⟩ := anyD_go I R hu r q he t vl e2
        have ea : e u0 = a := by rw [he u0 v0 d0 q1 r1, e1]; rfl
        refine ⟨fun y hy => ?_, by rw [List.any_cons, ea, h2]⟩
        rcases List.mem_cons.mp hy with rfl | hy
        · rw [ea]
          exact eqAt_D I R deep A.in1 _ _ _ _ _ _ _ (by rw [in1_units]; exact hu) r1 r q1 q e1
        · exact h1 y hy
open Classical in
theorem anyD_at (I : Inv X pins σ H s) (R : RS X.K cls H ρ S) {A : Around} (hu : A.units + 1 + deep < cLine) {x : D} {v : V} {u : Value} (r : RD X.K H ρ v x) (q : RelV v u) :
    ∃ e : Value → Bool, ∀ {vs : List V} {l : List D} {us : List Value} {b : Bool}, RDs X.K H ρ vs l → Vals vs us → anyD S x l = some b → (∀ y ∈ us, EqAt A.in1 s y u (e y)) ∧ us.any e = b := by
  refine ⟨fun y => if h : ∃ (w : V) (d : D), RelV w y ∧ RD X.K H ρ w d then (eqD S deep h.choose_spec.choose x).getD false else false, fun rs vl h => anyD_go I R hu r q (fun y w d h1 h2 => ?_) rs vl h⟩
  have hx : ∃ (w : V) (d : D), RelV w y ∧ RD X.K H ρ w d := ⟨w, d, h1, h2⟩
  rw [dif_pos hx]
  have k := hx.choose_spec.choose_spec
  have e1 : hx.choose = w := k.1.inj h1
  have k2 : RD X.K H ρ w hx.choose_spec.choose := Eq.subst (motive := fun z => RD X.K H ρ z hx.choose_spec.choose) e1 k.2
  rw [RD.inj I R k2 h2]
theorem op_pInG (neg : Bool) {f : Value → Value → Sem Value} (hs : OpR X f (fun x y H Q => ∃ i j, x = .str i ∧ y = .str j ∧ Q (.bl (if neg then !(!(Builtin.Str.occurrences j i 0 j.length 1).isEmpty) else !(Builtin.Str.occurrences j i 0 j.length 1).isEmpty)) H))
    (hq : ∀ (s : Shared) (l : Addr) (items : Array Value) (x : Value) (Q : Value → Shared → Prop) (e : Value → Bool), (s.heap.IsList l items ∨ s.heap.IsTuple l items) → (∀ y, y ∈ items → EqAt X.A.in1 s y x (e y)) → Q (.bool (if neg then !items.any e else items.any e)) s → wpAny (model X.prog X.w) X.A (f x (.ref l)) Q X.xe s)
    (hu : X.A.units + 200 < cLine) : OpR X f (upO2 X.K cls fun x y S => (inD x y S).map fun b => (.bl (if neg then !b else b), S)) := by
  intro pins s σ H x y v u Q I rx ry q
  obtain ⟨dx, dy, S, ρ, d, S', R, r1, r2, hg, q⟩ := q
  by_cases hz : ∃ a b, dx = .str a ∧ dy = .str b
  · obtain ⟨a, b, rfl, rfl⟩ := hz
    cases r1; cases r2
    cases hg
    exact hs pins s σ H _ _ v u Q I rx ry ⟨a, b, rfl, rfl, q H ρ _ (Ext.refl _ _) R (.bl _)⟩
  · have hi : inD dx dy S = (match seqOf dy S with | some l => anyD S dx l | none => none) := by
      cases dx <;> cases dy <;> first
        | rfl
        | exact absurd ⟨_, _, rfl, rfl⟩ hz
    have hg' : (inD dx dy S).map (fun b => (D.bl (if neg then !b else b), S)) = some (d, S') := hg
    clear hg
    have hg := hg'
    rw [hi] at hg
    cases e : seqOf dy S with
    | none => rw [e] at hg; cases hg
    | some l =>
      rw [e] at hg
      dsimp only at hg
      cases e2 : anyD S dx l with
      | none => rw [e2] at hg; cases hg
      | some b =>
        rw [e2] at hg; cases hg
        obtain ⟨a, vs, rfl, hsq, rs⟩ := seqOf_ok R r2 e
        cases ry
        obtain ⟨ef, hef⟩ := anyD_at I R (A := X.A) (by unfold deep; omega) r1 rx
        rcases hsq with hsq | hsq
        · obtain ⟨its, vl, p, _⟩ := I.list hsq
          obtain ⟨h1, h2⟩ := hef rs vl e2
          exact hq s a its.toArray v _ ef (.inl p.isList) (fun y hy => h1 y (by simpa using hy)) ⟨.bl _, H, I, by simp only [List.any_toArray, h2]; rfl, q H ρ _ (Ext.refl _ _) R (.bl _)⟩
        · obtain ⟨its, vl, p, _⟩ := I.tuple hsq
          obtain ⟨h1, h2⟩ := hef rs vl e2
          exact hq s a its.toArray v _ ef (.inr p) (fun y hy => h1 y (by simpa using hy)) ⟨.bl _, H, I, by simp only [List.any_toArray, h2]; rfl, q H ρ _ (Ext.refl _ _) R (.bl _)⟩
theorem op_pIn (hu : X.A.units + 200 < cLine) : OpR X (compareOp .In) (upO2 X.K cls pIn) :=
  op_pInG false op_in_str (fun s l items x Q e hl he h => hl.elim (fun hl => in_listAt e hl he h) fun hl => in_tupleAt e hl he h) hu
theorem op_pNotIn (hu : X.A.units + 200 < cLine) : OpR X (compareOp .NotIn) (upO2 X.K cls pNotIn) :=
  op_pInG true op_notin_str (fun s l items x Q e hl he h => hl.elim (fun hl => notIn_listAt e hl he h) fun hl => notIn_tupleAt e hl he h) hu
end
end DL

set_option Elab.async false
set_option linter.all false
set_option maxRecDepth 100000
set_option maxHeartbeats 1000000
/-! Defs of the text, comprehensions in their places, the law's end. -/
namespace DL
open PySem PySem.Spec L2
open PyProof.Rows hiding St
section
variable {K : PySem.W.Frag} {cls : Nat → Addr} {W : WX} {X : Cx}

theorem de_lc {it : DI} {g : Tg} {t : DT} {fe : DE} {vs : List Nat} {e : Expr} (hix : ∀ i ∈ g.ix, i ∈ vs) (h : PE X e (tLc (upI X.K cls W it) (tgOf X.K g) (upT X.K cls WF t) (upE X.K cls WF fe) vs)) : PE X e (upE X.K cls W (eLc it g t fe vs)) :=
  PE.weak h fun _ _ _ h => tLc_up hix h
theorem dps_lc {it : DI} {g : Tg} {t : DT} {fe : DE} {vs : List Nat} {i : Nat} {st : Stmt} (hix : ∀ j ∈ g.ix, j ∈ vs) (h : PS X st (tAsg (tLc (upI X.K cls W it) (tgOf X.K g) (upT X.K cls WF t) (upE X.K cls WF fe) vs) (gName i))) : PS X st (upS X.K cls W (sSet (.nm i) (eLc it g t fe vs))) :=
  PS.weak h fun D σ H h => by
    obtain ⟨η, S, ρ, R, a⟩ := h
    refine tLc_up hix ?_
    exact upE_s (k := fun d S' => .nx (η.set i (some d)) S') R a fun d v H1 ρ1 S1 e1 R1 r1 a1 => a1 _ H1 ρ1 (Ext.refl _ _) R1.1 (RE.set r1 i R1.2)
theorem dts_nil : PTs X [] (upT X.K cls W tYes') := ⟨fun pins s σ H Q I h => pts_nil.run pins s σ H Q I (by
    obtain ⟨η, S, ρ, R, a⟩ := h
    exact a H ρ (Ext.refl _ _) R.1)⟩
theorem dts_one {c : Expr} {t : DT} (h : PT X c (upT X.K cls W t)) : PTs X [c] (upT X.K cls W t) := pts_one h

/-- what a context wants of exceptions -/
structure Good (X : Cx) (W : WX) : Prop where
  pass : ∀ σ, PassesAt (L2.CX X.prog X.w) X σ (WE W σ)
  own : PassesOwn (model X.prog X.w) X.A X.env X.xe
abbrev WD (E : XK) : WX := fun cv od _ H => E cv od H
theorem re_start {H : Hp} {ρ : List Addr} {N : List Str} {vs : List V} {ds : List D} (h : RDs K H ρ vs ds) : RE K H ρ (L2.start N vs) (DL.start N.length ds) := by
  unfold L2.start DL.start
  rw [h.length]
  have rep : ∀ n : Nat, RE K H ρ (List.replicate n none) (List.replicate n none) := by
    intro n
    induction n with
    | zero => exact .nil
    | succ n ih => exact .cons trivial ih
  have go : ∀ {vs : List V} {ds : List D}, RDs K H ρ vs ds → ∀ {σ : L2.St} {η : DEnv}, RE K H ρ σ η → RE K H ρ (vs.map some ++ σ) (ds.map some ++ η) := by
    intro vs
    induction vs with
    | nil => intro ds h σ η r; cases h; exact r
    | cons v vs ih =>
      intro ds h σ η r
      cases h with
      | cons h1 h2 => exact .cons h1 (ih h2 r)
  exact go h (rep _)
/-- A DEF of the text does what its body's function does -/
theorem okD {P : Program} {w : World} {mg : Str → Option Value} {base : Heap} {x qual : Str} {params : Arguments} {body : List Stmt} {scope : Scope} {dvs : List V} {kws : List (Str × V)} {f : Addr} {fd : FuncData} {N ps : List Str} {k n m : Nat} {B : DS}
    (F : FunD K x qual params body scope dvs kws f fd) (S : FnScope N ps scope) (hn : ps.length = n) (hm : N.length = m)
    (hb : ∀ (cdv : Value) (A : Around) (outer : List Env) (s : Shared) (H : Hp) (E : XK), Room k (A.deeper (envOfC qual scope s.heap.objs.size f cdv)) → Good (cxOf (L2.CX P w) P w K mg base N qual scope f cdv A outer s H E) (WD E) →
      PSs (cxOf (L2.CX P w) P w K mg base N qual scope f cdv A outer s H E) body (upS K cls (WD E) B)) : FnOk P w K mg base (L2.CX P w) (k + 1) f fd ps (spD K cls n (runD n m B)) := by
  subst hn hm
  refine F.ok S (fun vs H Q E h => h.1) (fun cdv A outer s H vs Q E hr h => ?_)
  obtain ⟨hl, ds, St, ρ, R, rs, a⟩ := h
  have tk := takes_of (X := cxOf (L2.CX P w) P w K mg base N qual scope f cdv A outer s H E) (E := E) rfl rfl rfl rfl
  refine ⟨upS K cls (WD E) B, hb cdv A outer s H E hr ⟨fun σ => passAt tk σ, passes_of rfl⟩, ?_⟩
  refine ⟨DL.start N.length ds, St, ρ, ⟨R, re_start rs⟩, ?_⟩
  unfold runD at a
  rw [if_pos (by rw [← rs.length]; exact hl)] at a
  cases q : B (DL.start N.length ds) St with
  | nx η S' => rw [q] at a; exact fun σ' H' ρ' e R' _ => a H' ρ' e R' _ .non
  | rt d S' => rw [q] at a; exact fun v H' ρ' e R' r => a H' ρ' e R' v r
  | err x η S' => rw [q] at a; exact fun cv od σ' H' ρ' e R' _ rx => a cv od H' ρ' e R' rx
  | bk η S' => rw [q] at a; exact a.elim
  | ct η S' => rw [q] at a; exact a.elim
  | bad => rw [q] at a; exact a.elim
/-- a promise at a higher level -/
theorem okD.mono {P : Program} {w : World} {mg : Str → Option Value} {base : Heap} {CX : CXT} {f : Addr} {fd : FuncData} {ps : List Str} {j k : Nat} {sp : Sp} (F : FnOk P w K mg base CX j f fd ps sp) (h : j ≤ k) : FnOk P w K mg base CX k f fd ps sp := F.mono h
/-- the law's promise: at every list of ints the function ends with True -/
theorem law_sp {n : Nat} {F : List D → M D} (hF : ∀ ns : List Int, ns.length ≤ n → (∀ z ∈ ns, Builtin.Int.intBits z ≤ 1048576) → ∃ S, F [.fro (ns.map D.int)] [] = .ok (.bl true) S) {H : Hp} {a : Addr} {ns : List Int} (hl : ns.length ≤ n) (hbits : ∀ z ∈ ns, Builtin.Int.intBits z ≤ 1048576) (hO : Only H) (hS : SqL K H a (ns.map V.int)) :
    spD K cls 1 F [.ref a] H (fun v _ => v = .bl true) fun _ _ _ => False := by
  have sf : SqF K H a (ns.map V.int) := by
    rcases hS with (h | ⟨o, h⟩) | h
    · rcases hO a with z | ⟨o, xs, z⟩
      · rw [h] at z; cases z
      · rw [h] at z; cases z
    · exact .inl ⟨o, h⟩
    · exact .inr h
  obtain ⟨S, hS'⟩ := hF ns hl hbits
  refine ⟨rfl, [.fro (ns.map D.int)], [], [], ⟨rfl, List.nodup_nil, fun r o h => by simp at h⟩, .cons (.fro sf (RDs.ofInts ns)) .nil, ?_⟩
  rw [hS']
  intro H' ρ' e R v r
  cases r
  rfl
end
/-! ### facts behind the top -/
/-- the facts for isinstance of one's own classes -/
def insB (K : PySem.W.Frag) (C : Addr) : Bool :=
  decide (PySem.W.findIn K (.ref C) "__class__" = some (some (.builtin "object.__class__"))) && (decide (PySem.W.specialIn K (.builtin "object.__class__") "__get__" = some (some (.builtin "getset_descriptor.__get__"))) &&
    (decide (PySem.W.takesIn K (.builtin "object.__class__") = some true) && decide (PySem.W.mroIn K C (.type "object") = some true)))
theorem insB_ok {K : PySem.W.Frag} {C : Addr} (h : insB K C = true) (c : Cls K C) : InsOk K C := by
  obtain ⟨h1, h2⟩ := Bool.and_eq_true_iff.mp h
  obtain ⟨h3, h4⟩ := Bool.and_eq_true_iff.mp h2
  obtain ⟨h5, h6⟩ := Bool.and_eq_true_iff.mp h4
  exact ⟨c, of_decide_eq_true h1, of_decide_eq_true h3, of_decide_eq_true h5, of_decide_eq_true h6⟩
end DL

set_option Elab.async false
set_option linter.all false
set_option maxRecDepth 100000
set_option maxHeartbeats 1000000
/-! != of instances with an own __eq__, of dicts. -/
namespace DL
open PySem PySem.Spec L2
open PyProof.Rows hiding St
section
variable {prog : Program} {w : World} {A : Around} {E : Value → Shared → Prop} {s : Shared} {K : PySem.W.Frag} {x C f : Addr} {ox : Obj} {od : Option Obj}
theorem objNe_go {b : Value} {Q : Fin → Shared → Prop} (hu : A.units < cLine) (X : K.In s.heap) (I : PySem.W.InstAt s.heap x ox C od) (heq : PySem.W.findIn K (.ref C) "__eq__" = some (some (.ref f))) (hf : PySem.W.isFn K (.ref f) = true)
    (hcall : wpAny (model prog w) A (call (.ref f) [.ref x, b]) (fun v s' => ∃ k, v = .bool k ∧ Q (.done (.ret (.bool (!k)))) s') E s) :
    wpAny (model prog w) A (Builtin.«object.__ne__» ⟨[.ref x, b], []⟩) Q E s := by
  unfold Builtin.«object.__ne__»
  repeat (first
    | with_reducible refine wpAny_cRoomFor hu ?_
    | (refine wpAny_bind (m := callSpecialIfBound? (.ref x) (Str.ofString "__eq__") [b])
        (PySem.W.ifBound_K X I heq hf (wpAny_mono hcall (fun v s' hr => by
          obtain ⟨k, rfl, hq⟩ := hr
          repeat (first | exact hq | exact wpAny_pure hq | exact wpAny_truthy_bool hq | (refine wpAny_bind (m := truthy (.bool _)) (wpAny_truthy_bool ?_)) | wp_step)) fun _ _ e => e)))
    | wp_step)
theorem ifBound_objNe {M : Model} {args : List Value} {Q : Option Value → Shared → Prop} (X : K.In s.heap) (I : PySem.W.InstAt s.heap x ox C od) (hs : PySem.W.findIn K (.ref C) "__ne__" = some (some (.builtin "object.__ne__")))
    (h : wpAny M A (call (.builtin "object.__ne__") (.ref x :: args)) (fun v => Q (some v)) E s) : wpAny M A (callSpecialIfBound? (.ref x) "__ne__" args) Q E s := by
  simp only [callSpecialIfBound?, bindSpecialIfBound?]
  refine wpAny_holding (wpAny_bind (wpAny_bind (wpAny_bind (I.type.here ((PySem.W.looks_findIn X hs).here ?_)))))
  refine wpAny_bind (wpAny_askSetting (wpAny_ite ?_))
  have fin : wpAny M A (call (.builtin "object.__ne__") ([.ref x] ++ args) >>= fun v => pure (some v)) Q E s := wpAny_bind (wpAny_mono h (fun v s' h' => wpAny_pure h') fun _ _ h' => h')
  split
  · exact wpAny_bind (wpAny_of_eq (F.cmp_object.ne.bind _) (wpAny_pure (by exact fin)))
  · exact wpAny_tryCatch (wpAny_bind (wpAny_of_eq (F.cmp_object.ne.bind _) (wpAny_pure (by exact fin))))
theorem ne_own {y : Addr} {oy : Obj} {od' : Option Obj} {Q : Value → Shared → Prop} (hu : A.units + 1 < cLine) (X : K.In s.heap) (I : PySem.W.InstAt s.heap x ox C od) (I' : PySem.W.InstAt s.heap y oy C od') (hm : PySem.W.mroIn K C (.type "object") = some true)
    (hne : PySem.W.findIn K (.ref C) "__ne__" = some (some (.builtin "object.__ne__"))) (heq : PySem.W.findIn K (.ref C) "__eq__" = some (some (.ref f))) (hf : PySem.W.isFn K (.ref f) = true)
    (hcall : wpAny (model prog w) A.in1 (call (.ref f) [.ref x, .ref y]) (fun v s' => ∃ k, v = .bool k ∧ Q (.bool (!k)) s') E s) : wpAny (model prog w) A (compareOp .NotEq (.ref x) (.ref y)) Q E s := by
  have one : wpAny (model prog w) A (tryCompare (.ref x) "__ne__" (.ref y)) (fun r s' => ∃ k, r = some (.bool (!k)) ∧ Q (.bool (!k)) s') E s := by
    unfold tryCompare
    refine wpAny_bind (ifBound_objNe X I hne (wpAny_call (codeAny_call_builtin F.cmp_object.ne.plain F.cmpEntry_ne
      (PySem.W.check_slot F.cmpKind_ne F.cmpSplit_ne (I.type.andThen (PySem.W.looks_mroIn X hm)) (F.cmpArgs_ne _ _) (objNe_go (A := A.in1) (by rw [in1_units]; exact hu) X I heq hf (wpAny_mono hcall (fun v s' hv => ?_) fun _ _ e => e))))))
    obtain ⟨k, rfl, q⟩ := hv
    exact ⟨k, rfl, wpAny_pure ⟨k, rfl, q⟩⟩
  unfold compareOp
  simp only [richCompare, PySem.cmpInfo_NotEq, oneThing_ref]
  refine wpAny_holding (wpAny_bind (wpAny_cRoomFor (Nat.lt_of_succ_lt hu) ?_))
  refine wpAny_bind (I.type.here ?_)
  refine wpAny_bind (I'.type.here ?_)
  rw [show (Value.ref C != Value.ref C) = false from by simp]
  simp only [Bool.false_eq_true, if_false]
  refine wpAny_bind (wpAny_pure ?_)
  simp only [Bool.false_eq_true, if_false]
  refine wpAny_bind (wpAny_mono one (fun r s' hr => ?_) fun _ _ e => e)
  obtain ⟨k, rfl, q⟩ := hr
  first | exact wpAny_pure q | exact wpAny_pure (wpAny_pure q)
end
section
variable {K : PySem.W.Frag} {cls : Nat → Addr} {W : WX} {X : Cx}
/-- dicts whose != is walked here -/
def flatDic : List (D × D) → Bool
  | [] => true
  | [(.int _, .int _)] => true
  | _ => false
/-- != of two things, instances of the class c by its own __eq__ F, dicts that are one -/
def neX (c : Nat) (F : List D → M D) (x y : D) : M D := fun S => match x, y with
  | .ref r, .ref q => (match S[r]?, S[q]? with
    | some (.ins c1 _), some (.ins c2 _) => if c1 = c ∧ c2 = c then (match F [.ref r, .ref q] S with | .ok (.bl b) S3 => .ok (.bl (!b)) S3 | _ => .bad) else .bad
    | some (.dic l), some (.dic _) => if r = q ∧ flatDic l = true then .ok (.bl false) S else .bad
    | _, _ => Opt (pNe x y S))
  | _, _ => Opt (pNe x y S)
def eNeX (c : Nat) (F : List D → M D) (fa fb : DE) : DE := fun η S => (fa η S).bind fun x S1 => (fb η S1).bind fun y S2 => neX c F x y S2
def upX (K : PySem.W.Frag) (cls : Nat → Addr) (g : D → D → M D) : R2 := fun x y H Q => ∃ dx dy S ρ d S', RS K cls H ρ S ∧ RD K H ρ x dx ∧ RD K H ρ y dy ∧ g dx dy S = .ok d S' ∧
  ∀ H' ρ' v, Ext H ρ H' ρ' → RS K cls H' ρ' S' → RD K H' ρ' v d → Q v H'
theorem tOpX_up {g : D → D → M D} (ng : ∀ x y S z S', g x y S ≠ .err z S') {fa fb : DE} {σ : L2.St} {H : Hp} {Q : VK} (h : upE K cls W (fun η S => (fa η S).bind fun x S1 => (fb η S1).bind fun y S2 => g x y S2) σ H Q) : tOp (upX K cls g) (upE K cls W fa) (upE K cls W fb) σ H Q := by
  obtain ⟨η, S, ρ, R, a⟩ := h
  refine upE_go R a fun x v H1 ρ1 S1 e1 R1 r1 a1 => ?_
  refine upE_go R1 a1 fun y u H2 ρ2 S2 e2 R2 r2 a2 => ?_
  cases q : g x y S2 with
  | bad => rw [q] at a2; exact a2.elim
  | err z S3 => exact absurd q (ng _ _ _ _ _)
  | ok d S3 =>
    rw [q] at a2
    exact ⟨x, y, S2, ρ2, d, S3, R2.1, RD.ext e2 r1, r2, q, fun H' ρ' v e R r => a2 H' ρ' e R v r⟩
/-- what an own class with __eq__ alone is asked -/
structure EqOk (K : PySem.W.Frag) (C f : Addr) : Prop where
  hm : PySem.W.mroIn K C (.type "object") = some true
  hne : PySem.W.findIn K (.ref C) "__ne__" = some (some (.builtin "object.__ne__"))
  heq : PySem.W.findIn K (.ref C) "__eq__" = some (some (.ref f))
  hf : PySem.W.isFn K (.ref f) = true
theorem neX_ne {c : Nat} {F : List D → M D} : ∀ x y S z S', neX c F x y S ≠ .err z S' := by
  intro x y S z S' h
  have no : ∀ o : Option (D × Store), Opt o ≠ .err z S' := fun o => by cases o <;> intro h <;> cases h
  unfold neX at h
  split at h
  · split at h
    · split at h
      · split at h <;> cases h
      · cases h
    · split at h <;> cases h
    · exact no _ h
  · exact no _ h
theorem op_neX {c n : Nat} {f : Addr} {F : List D → M D} {CX : CXT} {k : Nat} {fd : FuncData} {ps : List Str} (hEq : EqOk X.K (cls c) f) (G : FnOk X.prog X.w X.K X.mg X.base (L2.CX X.prog X.w) k f fd ps (spD X.K cls n F)) (hb : Binds X.K fd ps []) (hr : Room (k + 1) X.A)
    (hlen : ∀ ds : List D, ∀ S, F ds S = .bad ∨ ds.length = n) (hu : X.A.units + 200 < cLine) : OpR X (compareOp .NotEq) (upX X.K cls (neX c F)) := by
  intro pins s σ H x y v u Q I rx ry q
  obtain ⟨dx, dy, S, ρ, d, S', R, r1, r2, hg, q⟩ := q
  have plain : Opt (pNe dx dy S) = .ok d S' → wpAny (model X.prog X.w) X.A (compareOp .NotEq v u) (EP X pins σ Q) X.xe s := by
    intro h
    refine op_pNe hu pins s σ H x y v u Q I rx ry ⟨dx, dy, S, ρ, d, S', R, r1, r2, ?_, q⟩
    cases e : pNe dx dy S with
    | none => rw [e] at h; cases h
    | some p => obtain ⟨a, b⟩ := p; rw [e] at h; cases h; rfl
  unfold neX at hg
  split at hg
  · rename_i r q0
    cases r1 with
    | ref h1 =>
      rename_i a
      cases r2 with
      | ref h2 =>
        rename_i a'
        cases rx; cases ry
        split at hg
        · rename_i c1 fs1 c2 fs2 e1 e2
          split at hg
          · rename_i hc
            obtain ⟨rfl, rfl⟩ := hc
            obtain ⟨dx1, vf1, hv1, rf1⟩ := R.ins h1 e1
            obtain ⟨dx2, vf2, hv2, rf2⟩ := R.ins h2 e2
            obtain ⟨mA, J, _⟩ := ins_get I.hok hv1
            obtain ⟨mB, J', _⟩ := ins_get I.hok hv2
            obtain ⟨od, J, _⟩ := J.look
            obtain ⟨od', J', _⟩ := J'.look
            split at hg
            · rename_i b S3 eF
              cases hg
              refine ne_own (by omega) I.kIn J J' hEq.hm hEq.hne hEq.heq hEq.hf ?_
              have e0 : Env0 X.prog X.w X.K X.mg X.base X.A.in1 X.stack s H := I.env0.in1
              have rr : RDs X.K H ρ [V.ref a, V.ref a'] [D.ref r, D.ref q0] := .cons (.ref h1) (.cons (.ref h2) .nil)
              have hn : [V.ref a, V.ref a'].length = n := by
                rcases hlen [D.ref r, D.ref q0] S with z | z
                · rw [z] at eF; cases eF
                · exact z
              have hsp : spD X.K cls n F [V.ref a, V.ref a'] H (fun v H' => ∃ b', v = .bl b' ∧ Q (.bl (!b')) H') (fun _ _ _ => False) := by
                refine ⟨hn, [D.ref r, D.ref q0], S, ρ, R, rr, ?_⟩
                rw [eF]
                intro H' ρ' e R' w' rw'
                cases rw'
                exact ⟨b, rfl, q H' ρ' _ e R' (.bl _)⟩
              have r2' : Vals [V.ref a, V.ref a'] [Value.ref a, Value.ref a'] := .cons rfl (.cons rfl .nil)
              have hl := G.len _ _ _ _ hsp
              refine wpAny_call (codeAny_mono (G.run X.A.in1 X.stack s H ⟨[.ref a, .ref a'], []⟩ [.ref a, .ref a'] [.ref a, .ref a'] _ _ hr.in1 e0 (by
                have := hb s [.ref a, .ref a'] I.kIn (by simpa using hl)
                simpa using this) r2' hsp) fun r s' hq => ?_)
              cases r with
              | error e =>
                obtain ⟨_, _, _, _, _, _, _, _, _, _, _, _, z⟩ := hq
                exact z.elim
              | ok fl =>
                cases fl with
                | ret w' =>
                  obtain ⟨z, H', I', rz, b', ez, qz⟩ := I.after hq
                  subst ez
                  cases rz
                  exact ⟨b', rfl, .bl (!b'), H', I', rfl, qz⟩
                | next => exact False.elim hq
                | brk => exact False.elim hq
                | cont => exact False.elim hq
            · cases hg
          · cases hg
        · rename_i l m e1 e2
          split at hg
          · rename_i hc
            obtain ⟨rfl, hf⟩ := hc
            cases hg
            have ea : a' = a := by rw [h1] at h2; cases h2; rfl
            subst ea
            obtain ⟨a2, e', kk, hv, t⟩ := R.ob r _ e1
            rw [h1] at e'; cases e'
            refine op_ne_dictA (by omega) pins s σ H (.ref a') (.ref a') (.ref a') (.ref a') Q I (show L2.RelV (V.ref a') (Value.ref a') from rfl) (show L2.RelV (V.ref a') (Value.ref a') from rfl) ⟨a', a', kk, kk, rfl, rfl, hv, hv, rfl, ?_, q H ρ _ (Ext.refl _ _) R (.bl _)⟩
            cases t with
            | nil => intro p hp; simp at hp
            | cons rd t =>
              rename_i k0 v0 d0 vs0 ds0
              cases t with
              | cons _ _ =>
                cases k0 <;> cases rd <;> simp [flatDic, keyD] at hf
              | nil =>
                cases k0 with
                | inr z => simp [flatDic, keyD] at hf
                | inl i =>
                  cases rd with
                  | int j =>
                    intro p hp
                    have : p = (Sum.inl i, V.int j) := by simpa using hp
                    subst this
                    exact ⟨by simp [valV], rfl⟩
                  | _ => simp [flatDic, keyD] at hf
          · cases hg
        · exact plain hg
  · exact plain hg
theorem de_neX {c n : Nat} {f : Addr} {F : List D → M D} {k : Nat} {fd : FuncData} {ps : List Str} {a b : Expr} {fa fb : DE} {pos : Pos} (ho : OpR X (compareOp .NotEq) (upX X.K cls (neX c F))) (ha : PE X a (upE X.K cls W fa)) (hb : PE X b (upE X.K cls W fb)) : PE X (.Compare a [.NotEq] [b] pos) (upE X.K cls W (eNeX c F fa fb)) :=
  PE.weak (pe_cmpR ho ha hb (nomark _)) fun _ _ _ h => tOpX_up neX_ne h
theorem dt_neX {c n : Nat} {f : Addr} {F : List D → M D} {k : Nat} {fd : FuncData} {ps : List Str} {a b : Expr} {fa fb : DE} {pos : Pos} (ho : OpR X (compareOp .NotEq) (upX X.K cls (neX c F))) (ha : PE X a (upE X.K cls W fa)) (hb : PE X b (upE X.K cls W fb)) : PT X (.Compare a [.NotEq] [b] pos) (upT X.K cls W (tVal (eNeX c F fa fb))) :=
  PT.weak (pt_cmpR ho ha hb (nomark _)) fun _ _ _ h => tOpX_up neX_ne (tVal_up h)
end
end DL

set_option Elab.async false
set_option linter.all false
set_option maxRecDepth 100000
set_option maxHeartbeats 1000000
/-! Displays of dicts, tuples turned about, += of ints, bundles of defs and methods. -/
namespace DL
open PySem PySem.Spec L2
open PyProof.Rows hiding St
section
variable {prog : Program} {w : World} {A : Around} {E : Value → Shared → Prop} {s : Shared}
theorem applied_back {sl : Addr} {n : Nat} {vs : Value} {Q : Int × Int × Nat → Shared → Prop} (hs : s.heap.IsSliceOf sl .none .none vs) (pv : IsPart vs (some (-1)))
    (h : Q ((n : Int) - 1, -1, n) s) : wpAny (model prog w) A (Builtin.Slice.sliceApplied (.ref sl) (pure (n : Int))) Q E s := by
  obtain ⟨os, hos, hcs, hds⟩ := id hs
  unfold Builtin.Slice.sliceApplied Builtin.Slice.sliceFields
  refine wpAny_bind (wpAny_bind (wpAny_field hos hds (x := .none) rfl (wpAny_bind (wpAny_field hos hds (x := .none) rfl (wpAny_bind (wpAny_field hos hds (x := vs) rfl (wpAny_pure ?_)))))))
  refine wpAny_bind (HT.slicePart_ pv ?_)
  show wpAny _ _ (if ((-1 : Int) == 0) = true then _ else _) _ _ s
  rw [if_neg (by decide)]
  refine wpAny_bind (PyProof.Rows.slicePart_none (wpAny_bind (PyProof.Rows.slicePart_none (wpAny_bind (wpAny_pure ?_)))))
  show wpAny _ _ (match Builtin.Slice.sliceAdjust none none (-1) (n : Int) with | (lo, hi) => pure (lo, (-1 : Int), Builtin.Slice.slicePlaces lo hi (-1))) _ _ s
  have e1 : Builtin.Slice.sliceAdjust none none (-1) (n : Int) = ((n : Int) - 1, -1) := by
    unfold Builtin.Slice.sliceAdjust
    simp
  rw [e1]
  have e2 : Builtin.Slice.slicePlaces ((n : Int) - 1) (-1) (-1) = n := by
    unfold Builtin.Slice.slicePlaces
    simp
    try omega
  show wpAny _ _ (pure ((n : Int) - 1, (-1 : Int), Builtin.Slice.slicePlaces ((n : Int) - 1) (-1) (-1))) _ _ s
  rw [e2]
  exact wpAny_pure h
theorem pick_back (xs : Array Value) : ((List.range xs.size).filterMap fun (m : Nat) => xs[(((xs.size : Nat) : Int) - 1 + (m : Int) * -1).toNat]?).toArray = xs.toList.reverse.toArray := by
  congr 1
  apply List.ext_getElem?
  intro i
  have hh : ∀ n, n ≤ xs.size → ((List.range n).filterMap fun (m : Nat) => xs[(((xs.size : Nat) : Int) - 1 + (m : Int) * -1).toNat]?) = xs.toList.reverse.take n := by
    intro n hn
    induction n with
    | zero => simp
    | succ n ih =>
      rw [List.range_succ, List.filterMap_append, ih (by omega)]
      have e : (((xs.size : Nat) : Int) - 1 + (n : Int) * -1).toNat = xs.size - 1 - n := by omega
      have hlt : xs.size - 1 - n < xs.size := by omega
      rw [List.take_add_one, List.getElem?_reverse (by rw [Array.length_toList]; omega)]
      simp only [List.filterMap_cons, List.filterMap_nil, e]
      rw [Array.getElem?_eq_getElem hlt]
      simp [List.getElem?_eq_getElem, hlt]
  rw [hh xs.size (Nat.le_refl _), List.take_of_length_le (by simp)]
theorem getItem_tuple_back {t sl : Addr} {items : Array Value} {vs : Value} {Q : Value → Shared → Prop} (ht : IsTup s.heap t items) (hs : s.heap.IsSliceOf sl .none .none vs) (pv : IsPart vs (some (-1)))
    (h : Q (.ref s.heap.objs.size) { s with heap := s.heap.push { cls := .type "tuple", data := .seq items.toList.reverse.toArray } })
    (hsz : items.size ≤ sizeLine) : wpAny (model prog w) A (getItem (.ref t) (.ref sl)) Q E s := by
  have htake : sizeOk (.seq items.toList.reverse.toArray) := by
    show items.toList.reverse.toArray.size ≤ sizeLine
    rw [List.size_toArray, List.length_reverse, Array.length_toList]
    omega
  obtain ⟨os, hos, hcs, hds⟩ := id hs
  have hTs : s.TypeIs (.ref sl) "slice" := ⟨os, hos, hcs⟩
  unfold getItem
  try with_reducible refine wpAny_holding ?_
  first | refine wpAny_bind (wpAny_pure ?_) | skip
  refine wpAny_bind (wpAny_sequenceKey ht.typeIs (by decide) ?_)
  refine wpAny_bind (wpAny_callSpecial?_slot (name := Str.ofString "__getitem__") ht.typeIs PyProof.Rows.slot_tuple_getitem
    (wpAny_call_entry PyProof.Rows.slot_tuple_getitem ht.typeIs entry_tuple_getitem ?_ (args_tuple_getitem _ _)))
  show wpAny _ _ (Builtin.Tuple.tupleItemsOf (.ref t) >>= _) _ _ s
  refine wpAny_bind (PyProof.Rows.tupleItemsOf_ ht ?_)
  refine wpAny_bind (wpAny_typeOf hTs ?_)
  rw [if_pos (by decide)]
  refine wpAny_bind (applied_back hs pv ?_)
  have hno : ¬ ((((items.size : Nat) : Int) - 1 == 0 && (-1 : Int) == 1 && items.size == items.size) = true) := by simp
  show wpAny _ _ (if (((items.size : Nat) : Int) - 1 == 0 && (-1 : Int) == 1 && items.size == items.size) = true then _ else _) _ _ s
  rw [if_neg hno, pick_back]
  first
    | exact wpAny_bind (m := Builtin.Tuple.tupleExact _) (wpAny_newObj_type (wpAny_pure ⟨_, rfl, wpAny_pure h⟩) htake)
    | exact wpAny_bind (m := Builtin.Tuple.tupleExact _) (wpAny_newObj_type (wpAny_bind (wpAny_pure (wpAny_pure ⟨_, rfl, wpAny_pure h⟩))) htake)
    | exact wpAny_bind (wpAny_bind (m := Builtin.Tuple.tupleExact _) (wpAny_newObj_type (wpAny_pure (wpAny_pure ⟨_, rfl, wpAny_pure h⟩)) htake))
    | exact wpAny_bind (wpAny_bind (m := Builtin.Tuple.tupleExact _) (wpAny_newObj_type (wpAny_pure ⟨_, rfl, wpAny_pure h⟩) htake))
end
section
variable {K : PySem.W.Frag} {cls : Nat → Addr} {W : WX} {X : Cx}
/-- t[::-1], t a tuple -/
def tRevT (K : PySem.W.Frag) (te : TE) : TE := fun σ H Q => te σ H fun x H1 => ∃ a xs, x = .ref a ∧ SqT K H1 a xs ∧ ∀ p, H1 p = none → Q (.ref p) (upd H1 p (.tup xs.reverse))
theorem pe_revT {e : Expr} {te : TE} {k : Nat} {p1 p2 p3 pos : Pos} (he : PE X e te) : PE X (.Subscript e (.Slice none none (some (.UnaryOp .USub (.Constant (.int 1) k p1) p2)) p3) pos) (tRevT X.K te) := by
  refine ⟨fun pins s σ H Q I h => ?_⟩
  refine Subscript_ (thn (he.run pins s σ H _ I h) fun v s1 ⟨x, H1, I1, r1, q1⟩ => ?_)
  obtain ⟨a, xs, ex, hx, q⟩ := q1
  subst ex
  cases r1
  have hst : PO X (some (.UnaryOp .USub (.Constant (.int 1) k p1) p2)) (tPart (tUn (rU fun i => .int (-i)) (tC (.int 1)))) := po_some (pe_un un_neg pe_int)
  refine wpAny_Slice (thn (po_none.run pins s1 σ H1 (fun o H2 => o = none ∧ H2 = H1) I1 ⟨rfl, rfl⟩) fun vl s2 ⟨l, H2, I2, pl, el, e2⟩ => ?_)
  subst el e2
  refine thn (po_none.run pins s2 σ H2 (fun o H3 => o = none ∧ H3 = H2) I2 ⟨rfl, rfl⟩) fun vu s3 ⟨u, H3, I3, pu, eu, e3⟩ => ?_
  subst eu e3
  refine thn (hst.run pins s3 σ H3 (fun o H4 => o = some (-1) ∧ H4 = H3) I3 ⟨1, rfl, -1, rfl, rfl, rfl⟩) fun vs s4 ⟨o, H4, I4, ps, eo, e4⟩ => ?_
  subst eo e4
  cases pl
  cases pu
  have I5 : Inv X pins σ H4 { s4 with heap := s4.heap.push { cls := .type "slice", data := .fields #[.none, .none, vs] } } := I4.kept (t' := s4.toks) fun b ob q => Heap.get?_push_of_some _ q
  obtain ⟨its, r, ht, hz⟩ := I5.tuple hx
  have hlen := r.length
  show wpAny (model X.prog X.w) X.A (subscriptTail e (.Slice none none (some (.UnaryOp .USub (.Constant (.int 1) k p1) p2)) p3) (.ref a) (.ref s4.heap.objs.size)) (EP X pins σ Q) X.xe { s4 with heap := s4.heap.push { cls := .type "slice", data := .fields #[.none, .none, vs] } }
  refine tail_any (ops := [.ref a, .ref s4.heap.objs.size]) ht.typeIs (PyProof.Rows.slot_tuple_getitem.lookup) ?_ (by with_unfolding_all rfl)
  refine getItem_tuple_back ht (Heap.IsSliceOf.new _ .none .none vs) ps ?_ (by rw [List.size_toArray]; omega)
  refine ⟨.ref _, _, I5.laid (t' := s4.toks) (o := .tup xs.reverse) (fun b ob q => Heap.get?_push_of_some _ q) (Nat.le_refl _) ?_, rfl, q _ (I5.hok.fresh (Nat.le_refl _))⟩
  exact ⟨by rw [List.length_reverse]; exact hz, _, r.reverse, by simpa using IsTup.new (s4.heap.push { cls := .type "slice", data := .fields #[.none, .none, vs] }) its.reverse.toArray⟩
def pRev : P1
  | .tup l, S => some (.tup l.reverse, S)
  | _, _ => none
theorem RDs.rev {H : Hp} {ρ : List Addr} {vs : List V} {ds : List D} (h : RDs K H ρ vs ds) : RDs K H ρ vs.reverse ds.reverse := by
  have go : ∀ {vs : List V} {ds : List D}, RDs K H ρ vs ds → ∀ {us : List V} {es : List D}, RDs K H ρ us es → RDs K H ρ (vs.reverseAux us) (ds.reverseAux es) := by
    intro vs
    induction vs with
    | nil => intro ds h us es r; cases h; exact r
    | cons v vs ih => intro ds h us es r; cases h with | cons h1 h2 => exact ih h2 (.cons h1 r)
  exact go h .nil
theorem de_rev {e : Expr} {fe : DE} {k : Nat} {p1 p2 p3 pos : Pos} (he : PE X e (upE X.K cls W fe)) : PE X (.Subscript e (.Slice none none (some (.UnaryOp .USub (.Constant (.int 1) k p1) p2)) p3) pos) (upE X.K cls W (eUn pRev fe)) :=
  PE.weak (pe_revT he) fun σ H Q h => by
    obtain ⟨η, S, ρ, R, a⟩ := h
    refine upE_go R a fun d v H1 ρ1 S1 e1 R1 r1 a1 => ?_
    cases r1 with
    | tup h1 t1 => exact ⟨_, _, rfl, h1, fun p hp => a1 _ ρ1 (Ext.side hp) (R1.1.side hp) _ (.tup (SqT.of upd_same) (RDs.ext (Ext.side hp) (RDs.rev t1)))⟩
    | _ => exact a1.elim
theorem de_dnew {pos : Pos} : PE X (.Dict [] [] pos) (upE X.K cls W eDic0) :=
  PE.weak pe_dnewK fun σ H Q h => by
    obtain ⟨η, S, ρ, R, a⟩ := h
    exact fun p hp => a _ (ρ ++ [p]) (Ext.new R.1 hp) (R.1.new hp ⟨[], upd_same, .nil⟩) _ (.ref (RS.new' R.1))
theorem asideK {H : Hp} {ρ : List Addr} {p : Addr} {o : HO} {xs : List (Key × V)} (hp : p ∉ ρ) (hx : H p = some (.dK xs)) : Aside H (upd H p o) ρ :=
  ⟨fun b u h => by rw [upd_ne (fun z => by subst z; rw [hx] at h; cases h)]; exact h, fun b u v h => by rw [upd_ne (fun z => by subst z; rw [hx] at h; cases h)]; exact h,
   fun b u hb h => by rw [upd_ne (fun z : b = p => by subst z; exact hp hb)]; exact h⟩
/-- {k: e}, k a constant -/
def eDic1 (k : Key) (fe : DE) : DE := fun η S => (fe η S).bind fun d S1 => .ok (.ref S1.length) (S1 ++ [.dic [(keyD k, d)]])
theorem de_disp1 {k : Key} {ek e : Expr} {fe : DE} {pos : Pos} (hk : PE X ek (tC (kV k))) (he : PE X e (upE X.K cls W fe)) : PE X (.Dict [some ek] [e] pos) (upE X.K cls W (eDic1 k fe)) :=
  PE.weak (pe_disp (pps_cons hk he pps_nil) rfl rfl (by simp) (by simp)) fun σ H Q h => by
    obtain ⟨η, S, ρ, R, a⟩ := h
    intro p hp
    have R0 : Rel X.K cls σ (upd H p (.dK [])) η S ρ := ⟨R.1.side hp, RE.ext (Ext.side hp) R.2⟩
    refine ⟨η, S, ρ, R0, ?_⟩
    unfold eDic1 at a
    cases q : fe η S with
    | bad => rw [q] at a; exact a.elim
    | err x S' => rw [q] at a; exact After.from (Ext.side hp) (r := Res.err x S') a
    | ok d S1 =>
    rw [q] at a
    intro H1 ρ1 e1 R1 v r1
    have np : p ∉ ρ := fun hm => R.1.fresh hp hm
    have h1 : H1 p = some (.dK []) := e1.keep p _ np upd_same
    have np1 : p ∉ ρ1 := fun hm => by
      obtain ⟨m, em, hmn⟩ := e1.pre
      rw [em] at hm
      rcases List.mem_append.mp hm with q | q
      · exact np q
      · have := hmn p q; rw [upd_same] at this; cases this
    refine ⟨h1, [(k, v)], rfl, by simp, ?_⟩
    have as : Aside H1 (upd H1 p (.dK (mergeK [] [(k, v)]))) ρ1 := asideK np1 h1
    have ef : Ext H ρ (upd H1 p (.dK (mergeK [] [(k, v)]))) (ρ1 ++ [p]) := by
      obtain ⟨mo, em, nm⟩ := e1.pre
      have up : ∀ b u, H b = some u → (upd H p (.dK [])) b = some u := fun b u hb => by rw [upd_ne (ne_of_none hb hp)]; exact hb
      exact ⟨⟨mo ++ [p], by rw [em, List.append_assoc], fun b hb => by
          rcases List.mem_append.mp hb with z | z
          · cases q : H b with
            | none => rfl
            | some o => have := nm b z; rw [up b o q] at this; cases this
          · rw [List.mem_singleton.mp z]; exact hp⟩,
        fun b u hb h => by rw [upd_ne (ne_of_none h hp)]; exact e1.keep b u hb (up b u h),
        fun b u h => by obtain ⟨o', q⟩ := e1.dom b u (up b u h); exact ⟨o', by rw [upd_ne (ne_of_none h hp)]; exact q⟩,
        fun b u h => by rw [upd_ne (ne_of_none h hp)]; exact e1.tup b u (up b _ h),
        fun b u v h => by rw [upd_ne (ne_of_none h hp)]; exact e1.frz b u v (up b _ h)⟩
    exact a _ _ ef (rsMore (R1.aside as) np1 ⟨[(k, v)], upd_same, .cons (rdMore [p] (RD.aside as r1)) .nil⟩) _ (.ref (RS.new' R1))
/-- += of ints -/
def pIAdd : P2
  | .int i, .int j, S => some (.int (i + j), S)
  | _, _, _ => none
theorem ip_pIAdd : PIp X .Add (upO2 X.K cls pIAdd) := by
  intro pins s σ H x y v u Q I rx ry q
  obtain ⟨dx, dy, S, ρ, d, S', R, r1, r2, hg, q⟩ := q
  cases r1 with
  | int i =>
    cases r2 with
    | int j =>
      cases hg
      exact ip_add pins s σ H _ _ v u Q I rx ry ⟨i, j, rfl, rfl, q H ρ _ (Ext.refl _ _) R (.int _)⟩
    | _ => cases hg
  | _ => cases hg
theorem room_hu {k : Nat} {A : Around} (r : Room k A) : A.units + 200 < cLine := by have := r.un; omega
/-- a def of the text with what it does -/
structure FnB (P : Program) (w : World) (K : PySem.W.Frag) (mg : Str → Option Value) (base : Heap) (cls : Nat → Addr) (x : Str) (k n : Nat) (F : List D → M D) : Prop where
  ex : ∃ (f : Addr) (fd : FuncData) (ps : List Str), mg x = some (.ref f) ∧ PySem.W.keepIn K (.ref f) = true ∧ Binds K fd ps [] ∧ ps.length = n ∧ FnOk P w K mg base (L2.CX P w) k f fd ps (spD K cls n F)
  hlen : ∀ ds : List D, ∀ S, F ds S = .bad ∨ ds.length = n
theorem FnB.mono {P : Program} {w : World} {K : PySem.W.Frag} {mg : Str → Option Value} {base : Heap} {cls : Nat → Addr} {x : Str} {j k n : Nat} {F : List D → M D} (h : FnB P w K mg base cls x j n F) (hj : j ≤ k) : FnB P w K mg base cls x k n F := by
  obtain ⟨⟨f, fd, ps, a, b, c, d, e⟩, l⟩ := h
  exact ⟨⟨f, fd, ps, a, b, c, d, e.mono hj⟩, l⟩
theorem de_fn {k n : Nat} {F : List D → M D} {x : Str} {p pos : Pos} {e : Expr} {es : List Expr} {A : DA} (G : FnB X.prog X.w X.K X.mg X.base cls x k n F) (hr : Room k X.A) (hx : ∀ σ, PassesAt (L2.CX X.prog X.w) X σ (WE W σ)) (ha : PA X (e :: es) (upA X.K cls W A)) (hg : Gl X x) (hdb : (x == ("__debug__" : Str)) = false := by decide)
    (he : starEach (e :: es) X.env = (false, eval e X.env) :: starEach es X.env := by rfl) (hpl : (backTo pos (starEach es X.env)).any (·.1) = false := by rfl) : PE X (.Call (.Name x p) (e :: es) [] pos) (upE X.K cls W (eCall F A)) := by
  obtain ⟨⟨f, fd, ps, a, b, c, d, g⟩, l⟩ := G
  exact de_call g hr hg a b c hx ha d hdb he hpl l
/-- a method of a class -/
structure MtB (P : Program) (w : World) (K : PySem.W.Frag) (mg : Str → Option Value) (base : Heap) (cls : Nat → Addr) (c : Nat) (m : Str) (k n : Nat) (F : List D → M D) : Prop where
  ex : ∃ (f : Addr) (fd : FuncData) (ps : List Str), Meth K (cls c) m f ∧ Binds K fd ps [] ∧ ps.length = n ∧ FnOk P w K mg base (L2.CX P w) k f fd ps (spD K cls n F)
  hlen : ∀ ds : List D, ∀ S, F ds S = .bad ∨ ds.length = n
theorem MtB.mono {P : Program} {w : World} {K : PySem.W.Frag} {mg : Str → Option Value} {base : Heap} {cls : Nat → Addr} {c : Nat} {m : Str} {j k n : Nat} {F : List D → M D} (h : MtB P w K mg base cls c m j n F) (hj : j ≤ k) : MtB P w K mg base cls c m k n F := by
  obtain ⟨⟨f, fd, ps, a, b, d, e⟩, l⟩ := h
  exact ⟨⟨f, fd, ps, a, b, d, e.mono hj⟩, l⟩
theorem de_mt0 {pl : Sem Bool} {c k n : Nat} {m : Str} {F : List D → M D} {o : Expr} {fo : DE} {apos pos : Pos} (G : MtB X.prog X.w X.K X.mg X.base cls c m k n F) (hc : Cls X.K (cls c)) (hr : Room k X.A) (hx : ∀ σ, PassesAt (L2.CX X.prog X.w) X σ (WE W σ)) (ho : PE X o (upE X.K cls W fo))
    (ht : eval (.Call (.Attribute o m apos) [] [] pos) X.env = (do
      let ov ← eval o X.env
      standAt apos.atName
      let (f, first) ← holding [ov] (getMethod ov m pl)
      callWith pos f first (backTo pos (starEach [] X.env)) (backToKw pos (keywordEach [] X.env))) := by rfl) : PE X (.Call (.Attribute o m apos) [] [] pos) (upE X.K cls W (eMeth c m F fo aNil)) := by
  obtain ⟨⟨f, fd, ps, a, b, d, g⟩, l⟩ := G
  exact PE.weak (pe_methS0 ho hc a g hr b hx ht) fun _ _ _ h => eMeth_up0 l h
theorem de_mt {pl : Sem Bool} {c k n : Nat} {m : Str} {F : List D → M D} {o : Expr} {fo : DE} {e : Expr} {es : List Expr} {A : DA} {apos pos : Pos} (G : MtB X.prog X.w X.K X.mg X.base cls c m k n F) (hc : Cls X.K (cls c)) (hr : Room k X.A) (hx : ∀ σ, PassesAt (L2.CX X.prog X.w) X σ (WE W σ)) (ho : PE X o (upE X.K cls W fo)) (ha : PA X (e :: es) (upA X.K cls W A))
    (hst : starEach (e :: es) X.env = (false, eval e X.env) :: starEach es X.env := by rfl) (hpl : (backTo pos (starEach es X.env)).any (·.1) = false := by rfl)
    (ht : eval (.Call (.Attribute o m apos) (e :: es) [] pos) X.env = (do
      let ov ← eval o X.env
      standAt apos.atName
      let (f, first) ← holding [ov] (getMethod ov m pl)
      callWith pos f first (backTo pos (starEach (e :: es) X.env)) (backToKw pos (keywordEach [] X.env))) := by rfl) : PE X (.Call (.Attribute o m apos) (e :: es) [] pos) (upE X.K cls W (eMeth c m F fo A)) := by
  obtain ⟨⟨f, fd, ps, a, b, d, g⟩, l⟩ := G
  exact PE.weak (pe_methS ho hc a g hr b hx ha hst hpl ht) fun _ _ _ h => eMeth_up l h
/-- a class whose things are made -/
structure MkB (P : Program) (w : World) (K : PySem.W.Frag) (mg : Str → Option Value) (base : Heap) (cls : Nat → Addr) (x : Str) (c k n : Nat) (F : List D → M D) : Prop where
  ex : mg x = some (.ref (cls c)) ∧ ∃ (f : Addr) (fd : FuncData) (ps : List Str), Mk K (cls c) f ∧ Binds K fd ps [] ∧ ps.length = n ∧ FnOk P w K mg base (L2.CX P w) k f fd ps (spD K cls n F)
  hlen : ∀ ds : List D, ∀ S, F ds S = .bad ∨ ds.length = n
theorem de_mk {c k n : Nat} {F : List D → M D} {x : Str} {p pos : Pos} {e : Expr} {es : List Expr} {A : DA} (G : MkB X.prog X.w X.K X.mg X.base cls x c k n F) (hr : Room (k + 1) X.A) (hx : ∀ σ, PassesAt (L2.CX X.prog X.w) X σ (WE W σ)) (ha : PA X (e :: es) (upA X.K cls W A)) (hg : Gl X x) (hdb : (x == ("__debug__" : Str)) = false := by decide)
    (he : starEach (e :: es) X.env = (false, eval e X.env) :: starEach es X.env := by rfl) (hpl : (backTo pos (starEach es X.env)).any (·.1) = false := by rfl) : PE X (.Call (.Name x p) (e :: es) [] pos) (upE X.K cls W (eMake c F A)) := by
  obtain ⟨⟨hm, f, fd, ps, a, b, d, g⟩, l⟩ := G
  exact PE.weak (pe_makeS a g hr hg hm b hx ha hdb he hpl) fun _ _ _ h => eMake_up l h
end
/-- a def by its datum -/
theorem mkFn {P : Program} {w : World} {mg : Str → Option Value} {base : Heap} {K : PySem.W.Frag} {cls : Nat → Addr} {x qual : Str} {params : Arguments} {body : List Stmt} {scope : Scope} {f : Addr} {fd : FuncData} {N ps : List Str} {k n m : Nat} {B : DS}
    (F : FunD K x qual params body scope [] [] f fd) (hmg : mg x = some (.ref f)) (S : FnScope N ps scope) (hn : ps.length = n) (hm : N.length = m) (hbi : Binds K fd ps [])
    (hb : ∀ (cdv : Value) (A : Around) (outer : List Env) (s : Shared) (H : Hp) (E : XK), Room k (A.deeper (envOfC qual scope s.heap.objs.size f cdv)) → Good (cxOf (L2.CX P w) P w K mg base N qual scope f cdv A outer s H E) (WD E) →
      PSs (cxOf (L2.CX P w) P w K mg base N qual scope f cdv A outer s H E) body (upS K cls (WD E) B)) : FnB P w K mg base cls x (k + 1) n (runD n m B) :=
  ⟨⟨f, fd, ps, hmg, F.kp, hbi, hn, okD F S hn hm hb⟩, runD_len⟩
/-- a def of which nothing is asked -/
def noD : List D → M D := fun _ _ => .bad
theorem FnB.never {P : Program} {w : World} {mg : Str → Option Value} {base : Heap} {K : PySem.W.Frag} {cls : Nat → Addr} {x : Str} {f : Addr} {fd : FuncData} {ps : List Str} {k n : Nat}
    (hmg : mg x = some (.ref f)) (hk : PySem.W.keepIn K (.ref f) = true) (hbi : Binds K fd ps []) (hn : ps.length = n) : FnB P w K mg base cls x k n noD :=
  ⟨⟨f, fd, ps, hmg, hk, hbi, hn, ⟨fun vs H Q E h => by obtain ⟨_, _, _, _, _, _, a⟩ := h; exact a.elim, fun _ _ _ _ _ _ _ _ _ _ _ _ _ h => by obtain ⟨_, _, _, _, _, _, a⟩ := h; exact a.elim⟩⟩, fun _ _ => .inl rfl⟩
end DL

set_option Elab.async false
set_option linter.all false
set_option maxRecDepth 100000
set_option maxHeartbeats 1000000
/-! What a function on data ends with: rules to go through it. -/
namespace DL
open PySem PySem.Spec L2
open PyProof.Rows hiding St
/-- it ends with a value of which Q holds -/
def wR {α : Type} (r : Res α) (Q : α → Store → Prop) : Prop := match r with | .ok a S => Q a S | _ => False
structure OQ where
  nx : DEnv → Store → Prop
  rt : D → Store → Prop
  bk : DEnv → Store → Prop
  ct : DEnv → Store → Prop
def wO (o : Out) (P : OQ) : Prop := match o with | .nx η S => P.nx η S | .rt d S => P.rt d S | .bk η S => P.bk η S | .ct η S => P.ct η S | _ => False
def wP (o : Option (D × Store)) (Q : D → Store → Prop) : Prop := match o with | some (d, S) => Q d S | none => False
theorem wR_ok {α : Type} {a : α} {S : Store} {Q : α → Store → Prop} : wR (.ok a S) Q = Q a S := rfl
theorem wR_bind {α β : Type} {r : Res α} {f : α → Store → Res β} {Q : β → Store → Prop} : wR (r.bind f) Q = wR r fun a S => wR (f a S) Q := by cases r <;> rfl
theorem wR_opt {o : Option (D × Store)} {Q : D → Store → Prop} : wR (Opt o) Q = wP o Q := by cases o <;> rfl
theorem wR_mono {α : Type} {r : Res α} {Q Q' : α → Store → Prop} (h : wR r Q) (k : ∀ a S, Q a S → Q' a S) : wR r Q' := by
  cases r with
  | ok a S => exact k a S h
  | err _ _ => exact h
  | bad => exact h
theorem wO_mono {o : Out} {P P' : OQ} (h : wO o P) (h1 : ∀ η S, P.nx η S → P'.nx η S) (h2 : ∀ d S, P.rt d S → P'.rt d S) (h3 : ∀ η S, P.bk η S → P'.bk η S) (h4 : ∀ η S, P.ct η S → P'.ct η S) : wO o P' := by
  cases o with
  | nx η S => exact h1 _ _ h
  | rt η S => exact h2 _ _ h
  | bk η S => exact h3 _ _ h
  | ct η S => exact h4 _ _ h
  | err _ _ _ => exact h
  | bad => exact h
theorem wR_get {α : Type} {r : Res α} {Q : α → Store → Prop} (h : wR r Q) : ∃ a S, r = .ok a S ∧ Q a S := by
  cases r with
  | ok a S => exact ⟨a, S, rfl, h⟩
  | err _ _ => exact h.elim
  | bad => exact h.elim
theorem wR_of {α : Type} {r : Res α} {Q : α → Store → Prop} (h : ∃ a S, r = .ok a S ∧ Q a S) : wR r Q := by obtain ⟨a, S, rfl, h⟩ := h; exact h
section
variable {η : DEnv} {S : Store} {Q : D → Store → Prop} {QT : Bool → Store → Prop} {QA : List D → Store → Prop} {P : OQ}
def getv (η : DEnv) (i : Nat) (k : D → Prop) : Prop := match η[i]? with | some (some d) => k d | _ => False
theorem getv_0 {d : D} {k : D → Prop} : getv (some d :: η) 0 k = k d := rfl
theorem getv_s {o : Option D} {i : Nat} {k : D → Prop} : getv (o :: η) (i + 1) k = getv η i k := rfl
theorem w_var {i : Nat} : wR (eVar i η S) Q = getv η i fun d => Q d S := by
  unfold eVar getv
  cases η[i]? with
  | none => rfl
  | some o => cases o <;> rfl
theorem w_c {d : D} : wR (eC d η S) Q = Q d S := rfl
theorem w_un {g : P1} {fa : DE} : wR (eUn g fa η S) Q = wR (fa η S) fun x S1 => wP (g x S1) Q := by simp only [eUn, wR_bind, wR_opt]
theorem w_bin {g : P2} {fa fb : DE} : wR (eBin g fa fb η S) Q = wR (fa η S) fun x S1 => wR (fb η S1) fun y S2 => wP (g x y S2) Q := by simp only [eBin, wR_bind, wR_opt]
theorem w_nil : wR (aNil η S) QA = QA [] S := rfl
theorem w_cons {fa : DE} {fr : DA} : wR (aCons fa fr η S) QA = wR (fa η S) fun x S1 => wR (fr η S1) fun xs S2 => QA (x :: xs) S2 := by simp only [aCons, wR_bind, wR_ok]
theorem w_tup {fa : DA} : wR (eTup fa η S) Q = wR (fa η S) fun xs S1 => xs.length ≤ sizeLine ∧ Q (.tup xs) S1 := by
  simp only [eTup, wR_bind]
  congr 1; funext xs S1
  by_cases h : xs.length ≤ sizeLine <;> simp [h, wR]
theorem w_lst {fa : DA} : wR (eLst fa η S) Q = wR (fa η S) fun xs S1 => xs.length ≤ sizeLine ∧ Q (.ref S1.length) (S1 ++ [.lst xs]) := by
  simp only [eLst, wR_bind]
  congr 1; funext xs S1
  by_cases h : xs.length ≤ sizeLine <;> simp [h, wR]
theorem w_dic0 : wR (eDic0 η S) Q = Q (.ref S.length) (S ++ [.dic []]) := rfl
theorem w_dic1 {k : Key} {fe : DE} : wR (eDic1 k fe η S) Q = wR (fe η S) fun d S1 => Q (.ref S1.length) (S1 ++ [.dic [(keyD k, d)]]) := by simp only [eDic1, wR_bind, wR_ok]
theorem w_call {f : List D → M D} {fa : DA} : wR (eCall f fa η S) Q = wR (fa η S) fun xs S1 => wR (f xs S1) Q := by simp only [eCall, wR_bind]
theorem w_cb {g : PL} {fa : DA} : wR (eCB g fa η S) Q = wR (fa η S) fun xs S1 => wP (g xs S1) Q := by simp only [eCB, wR_bind, wR_opt]
def isB (d : D) (k : Bool → Prop) : Prop := match d with | .bl b => k b | _ => False
theorem isB_bl {b : Bool} {k : Bool → Prop} : isB (.bl b) k = k b := rfl
theorem w_and {fa fb : DE} : wR (eAnd fa fb η S) Q = wR (fa η S) fun x S1 => isB x fun b => if b = true then wR (fb η S1) Q else Q (.bl false) S1 := by
  simp only [eAnd, wR_bind]
  congr 1; funext x S1
  cases x with
  | bl b => cases b <;> simp [isB, wR]
  | _ => simp [isB, wR]
theorem w_or {fa fb : DE} : wR (eOr fa fb η S) Q = wR (fa η S) fun x S1 => isB x fun b => if b = true then Q (.bl true) S1 else wR (fb η S1) Q := by
  simp only [eOr, wR_bind]
  congr 1; funext x S1
  cases x with
  | bl b => cases b <;> simp [isB, wR]
  | _ => simp [isB, wR]
theorem w_not {fa : DE} : wR (eNot fa η S) Q = wR (fa η S) fun x S1 => isB x fun b => Q (.bl (!b)) S1 := by
  simp only [eNot, wR_bind]
  congr 1; funext x S1
  cases x <;> simp [isB, wR]
theorem w_if {c : DT} {fa fb : DE} : wR (eIf c fa fb η S) Q = wR (c η S) fun b S1 => if b = true then wR (fa η S1) Q else wR (fb η S1) Q := by
  simp only [eIf, wR_bind]
  congr 1; funext b S1
  cases b <;> simp
theorem w_chain {g g' : P2} {fa fb fc : DE} : wR (eChain g g' fa fb fc η S) Q = wR (fa η S) fun x S1 => wR (fb η S1) fun y S2 => wP (g x y S2) fun z S3 => isB z fun b => if b = true then wR (fc η S3) fun w S4 => wP (g' y w S4) Q else Q (.bl false) S3 := by
  simp only [eChain, wR_bind, wR_opt]
  congr 1; funext x S1
  congr 1; funext y S2
  congr 1; funext z S3
  cases z with
  | bl b =>
    cases b
    · rfl
    · show wR ((fc η S3).bind fun w S4 => Opt (g' y w S4)) Q = _
      simp only [wR_bind, wR_opt, isB, if_true]
  | _ => rfl
theorem w_tval {fa : DE} : wR (tVal fa η S) QT = wR (fa η S) fun x S1 => isB x fun b => QT b S1 := by
  simp only [tVal, wR_bind]
  congr 1; funext x S1
  cases x <;> simp [isB, wR]
theorem w_tand {c e : DT} : wR (tAnd' c e η S) QT = wR (c η S) fun b S1 => if b = true then wR (e η S1) QT else QT false S1 := by
  simp only [tAnd', wR_bind]
  congr 1; funext b S1
  cases b <;> simp [wR]
theorem w_tor {c e : DT} : wR (tOr' c e η S) QT = wR (c η S) fun b S1 => if b = true then QT true S1 else wR (e η S1) QT := by
  simp only [tOr', wR_bind]
  congr 1; funext b S1
  cases b <;> simp [wR]
theorem w_tnot {c : DT} : wR (tNot' c η S) QT = wR (c η S) fun b S1 => QT (!b) S1 := by simp only [tNot', wR_bind, wR_ok]
theorem w_sl {fe : DE} {lo hi : DO} : wR (eSl fe lo hi η S) Q = wR (fe η S) fun d S1 => wR (lo η S1) fun l S2 => wR (hi η S2) fun h S3 => wP (pSl d l h S3) Q := by simp only [eSl, wR_bind, wR_opt]
theorem w_onone {QO : Option Int → Store → Prop} : wR (oNone η S) QO = QO none S := rfl
def isI (d : D) (k : Int → Prop) : Prop := match d with | .int b => k b | _ => False
theorem isI_int {b : Int} {k : Int → Prop} : isI (.int b) k = k b := rfl
theorem w_osome {fe : DE} {QO : Option Int → Store → Prop} : wR (oSome fe η S) QO = wR (fe η S) fun d S1 => isI d fun i => QO (some i) S1 := by
  simp only [oSome, wR_bind]
  congr 1; funext x S1
  cases x <;> simp [isI, wR]
theorem w_bm {T : String} {g : PM} {fo : DE} {fa : DA} : wR (eBM T g fo fa η S) Q = wR (fo η S) fun x S1 => tyD T x S1 = true ∧ wR (fa η S1) fun xs S2 => wP (g x xs S2) Q := by
  simp only [eBM, wR_bind]
  congr 1; funext x S1
  by_cases h : tyD T x S1 = true
  · simp [h, wR_bind, wR_opt]
  · simp [h, wR]
theorem w_make {c : Nat} {F : List D → M D} {fa : DA} : wR (eMake c F fa η S) Q = wR (fa η S) fun ds S1 => wR (F (.ref S1.length :: ds) (S1 ++ [.ins c []])) fun d S2 => d = .non ∧ Q (.ref S1.length) S2 := by
  simp only [eMake, wR_bind]
  congr 1; funext ds S1
  congr 1; funext d S2
  cases d <;> simp [wR]
theorem w_runD {n m : Nat} {b : DS} {ds : List D} : wR (runD n m b ds S) Q = (ds.length = n ∧ wO (b (start m ds) S) ⟨fun _ S' => Q .non S', Q, fun _ _ => False, fun _ _ => False⟩) := by
  unfold runD
  by_cases h : ds.length = n
  · rw [if_pos h]
    cases b (start m ds) S <;> simp [wR, wO, h]
  · rw [if_neg h]
    simp [wR, h]
theorem w_next : wO (sNext η S) P = P.nx η S := rfl
theorem w_seq {f g : DS} : wO (sSeq f g η S) P = wO (f η S) { P with nx := fun η S => wO (g η S) P } := by
  unfold sSeq
  cases f η S <;> rfl
theorem w_brk : wO (sBrk η S) P = P.bk η S := rfl
theorem w_cnt : wO (sCnt η S) P = P.ct η S := rfl
theorem w_drop {f : DE} : wO (sDrop f η S) P = wR (f η S) fun _ S' => P.nx η S' := by
  unfold sDrop
  cases f η S <;> rfl
theorem w_ret {f : DE} : wO (sRet f η S) P = wR (f η S) P.rt := by
  unfold sRet
  cases f η S <;> rfl
theorem w_sif {c : DT} {f g : DS} : wO (sIf c f g η S) P = wR (c η S) fun b S' => if b = true then wO (f η S') P else wO (g η S') P := by
  unfold sIf
  cases c η S with
  | ok b S' => cases b <;> rfl
  | _ => rfl
theorem w_never : wO (sNever η S) P = False := rfl
theorem w_set {i : Nat} {f : DE} : wO (sSet (.nm i) f η S) P = wR (f η S) fun d S' => P.nx (η.set i (some d)) S' := by
  unfold sSet
  cases f η S <;> rfl
theorem w_setT {l : List Nat} {f : DE} : wO (sSet (.tp l) f η S) P = wR (f η S) fun d S' => ∃ ds, d = .tup ds ∧ ds.length = l.length ∧ P.nx (putAll l ds η) S' := by
  unfold sSet
  cases f η S with
  | ok d S' =>
    cases d with
    | tup ds =>
      by_cases h : ds.length = l.length <;> simp [Tg.put, h, wO, wR]
    | _ => simp [Tg.put, wO, wR]
  | _ => rfl
theorem w_par {l : List Nat} {f : DA} : wO (sPar l f η S) P = wR (f η S) fun ds S' => ds.length = l.length ∧ P.nx (putAll l ds η) S' := by
  unfold sPar
  cases f η S with
  | ok ds S' => by_cases h : ds.length = l.length <;> simp [h, wO, wR]
  | _ => rfl
theorem w_aug {i : Nat} {g : P2} {f : DE} : wO (sAug i g f η S) P = getv η i fun d => wR (f η S) fun y S' => wP (g d y S') fun z S2 => P.nx (η.set i (some z)) S2 := by
  unfold sAug getv
  cases η[i]? with
  | none => rfl
  | some o =>
    cases o with
    | none => rfl
    | some d =>
      cases f η S with
      | ok y S' =>
        cases h : g d y S' with
        | none => simp [h, wO, wR, wP]
        | some p => simp [h, wO, wR, wP]
      | _ => rfl
def wS (o : Option Store) (Q : Store → Prop) : Prop := match o with | some S => Q S | none => False
theorem w_put {g : D → D → D → Store → Option Store} {f fo fi : DE} : wO (sPut g f fo fi η S) P = wR (f η S) fun d S1 => wR (fo η S1) fun o S2 => wR (fi η S2) fun i S3 => wS (g o i d S3) fun S4 => P.nx η S4 := by
  unfold sPut
  cases f η S with
  | ok d S1 =>
    simp only [wR_ok]
    cases fo η S1 with
    | ok o S2 =>
      simp only [wR_ok]
      cases fi η S2 with
      | ok i S3 =>
        simp only [wR_ok]
        cases g o i d S3 <;> simp [wO, wS]
      | _ => rfl
    | _ => rfl
  | _ => rfl
theorem w_fldput {cs : List Nat} {f : Str} {fo fv : DE} : wO (sFldPut cs f fo fv η S) P = wR (fv η S) fun d S1 => wR (fo η S1) fun o S2 => ∃ r c fs, o = .ref r ∧ S2[r]? = some (.ins c fs) ∧ c ∈ cs ∧ fs.length < 1000 ∧ P.nx η (S2.set r (.ins c (putFD f d fs))) := by
  unfold sFldPut
  cases fv η S with
  | ok d S1 =>
    simp only [wR_ok]
    cases fo η S1 with
    | ok o S2 =>
      simp only [wR_ok]
      cases o with
      | ref r =>
        cases h : S2[r]? with
        | none => simp [h, wO]
        | some ob =>
          cases ob with
          | ins c fs =>
            refine propext ⟨fun z => ?_, fun ⟨r', c', fs', e1, e2, h3, h4, z⟩ => ?_⟩
            · by_cases hc : c ∈ cs ∧ fs.length < 1000
              · simp only [h, if_pos hc] at z
                exact ⟨r, c, fs, rfl, h, hc.1, hc.2, z⟩
              · simp only [h, if_neg hc] at z; exact False.elim z
            · cases e1
              rw [h] at e2; cases e2
              simp only [h, if_pos (And.intro h3 h4)]
              exact z
          | _ => simp [h, wO]
      | _ => simp [wO]
    | _ => rfl
  | _ => rfl
/-! ### loops -/
theorem w_while {c : DT} {b : DS} (I : Nat → DEnv → Store → Prop)
    (step : ∀ m η S, I m η S → wR (c η S) fun t S1 => if t = true then wO (b η S1) { P with nx := fun η S => ∃ m', m' < m ∧ I m' η S, bk := P.nx, ct := fun η S => ∃ m', m' < m ∧ I m' η S } else P.nx η S1)
    {m : Nat} (h0 : I m η S) (hm : m < fuel) : wO (sWhile c b η S) P := by
  have go : ∀ (n m : Nat) (η : DEnv) (S : Store), m < n → I m η S → wO (whileF c b n η S) P := by
    intro n
    induction n with
    | zero => intro m η S h; omega
    | succ n ih =>
      intro m η S h hI
      have st := step m η S hI
      unfold whileF
      cases q : c η S with
      | bad => rw [q] at st; exact st.elim
      | err _ _ => rw [q] at st; exact st.elim
      | ok t S1 =>
        rw [q] at st
        cases t with
        | false => exact st
        | true =>
          have st' : wO (b η S1) { P with nx := fun η S => ∃ m', m' < m ∧ I m' η S, bk := P.nx, ct := fun η S => ∃ m', m' < m ∧ I m' η S } := st
          show wO (match b η S1 with
            | .nx η2 S2 => whileF c b n η2 S2
            | .ct η2 S2 => whileF c b n η2 S2
            | .bk η2 S2 => .nx η2 S2
            | o => o) P
          cases q2 : b η S1 with
          | nx η2 S2 =>
            rw [q2] at st'
            obtain ⟨m', h1, h2⟩ := st'
            exact ih m' η2 S2 (by omega) h2
          | ct η2 S2 =>
            rw [q2] at st'
            obtain ⟨m', h1, h2⟩ := st'
            exact ih m' η2 S2 (by omega) h2
          | bk η2 S2 => rw [q2] at st'; exact st'
          | rt d S2 => rw [q2] at st'; exact st'
          | err x η2 S2 => rw [q2] at st'; exact st'.elim
          | bad => rw [q2] at st'; exact st'.elim
  exact go fuel m η S hm h0
theorem w_forF {src : List (Nat × O)} {g : Tg} {b : DS} (I : List D → DEnv → Store → Prop) (hsrc : ∀ r η S, I r η S → srcOk src S)
    (step : ∀ x r η S, I (x :: r) η S → ∃ η1, g.put x η = some η1 ∧ wO (b η1 S) { P with nx := I r, bk := P.nx, ct := I r })
    (hend : ∀ η S, I [] η S → P.nx η S) : ∀ {xs : List D} {η : DEnv} {S : Store}, I xs η S → wO (forF src g b xs η S) P
  | [], η, S, h => by
    unfold forF
    rw [if_pos (hsrc _ _ _ h)]
    exact hend _ _ h
  | x :: xs, η, S, h => by
    unfold forF
    rw [if_pos (hsrc _ _ _ h)]
    obtain ⟨η1, e, st⟩ := step x xs η S h
    rw [e]
    show wO (match b η1 S with
        | .nx η2 S2 => forF src g b xs η2 S2
        | .ct η2 S2 => forF src g b xs η2 S2
        | .bk η2 S2 => .nx η2 S2
        | o => o) P
    cases q2 : b η1 S with
    | nx η2 S2 => rw [q2] at st; exact w_forF I hsrc step hend st
    | ct η2 S2 => rw [q2] at st; exact w_forF I hsrc step hend st
    | bk η2 S2 => rw [q2] at st; exact st
    | rt d S2 => rw [q2] at st; exact st
    | err x η2 S2 => rw [q2] at st; exact st.elim
    | bad => rw [q2] at st; exact st.elim
theorem w_for {it : DI} {g : Tg} {b : DS} : wO (sFor it g b η S) P = wR (it η S) fun I S' => wO (forF I.src g b I.items η S') P := by
  unfold sFor
  cases it η S <;> rfl
theorem w_lcF {src : List (Nat × O)} {g : Tg} {t : DT} {e : DE} (I : List D → List D → Store → Prop) (hsrc : ∀ r acc S, I r acc S → srcOk src S)
    (step : ∀ x r acc S, I (x :: r) acc S → ∃ η1, g.put x η = some η1 ∧ wR (t η1 S) fun b S1 => if b = true then wR (e η1 S1) fun y S2 => acc.length < sizeLine ∧ I r (acc ++ [y]) S2 else I r acc S1)
    {K : List D → Store → Prop} (hend : ∀ acc S, I [] acc S → K acc S) : ∀ {xs : List D} {S : Store} {acc : List D}, I xs acc S → ∃ acc' S', lcF src g t e η xs S acc = some (acc', S') ∧ K acc' S'
  | [], S, acc, h => by
    unfold lcF
    rw [if_pos (hsrc _ _ _ h)]
    exact ⟨acc, S, rfl, hend _ _ h⟩
  | x :: xs, S, acc, h => by
    unfold lcF
    rw [if_pos (hsrc _ _ _ h)]
    obtain ⟨η1, e1, st⟩ := step x xs acc S h
    rw [e1]
    obtain ⟨b, S1, q1, st⟩ := wR_get st
    cases b with
    | false =>
      simp only [q1]
      exact w_lcF I hsrc step hend (by simpa using st)
    | true =>
      rw [if_pos rfl] at st
      obtain ⟨y, S2, q2, hl, st⟩ := wR_get st
      simp only [q1, q2]
      rw [if_pos hl]
      exact w_lcF I hsrc step hend st
theorem w_lc {it : DI} {g : Tg} {t : DT} {e : DE} {vs : List Nat} : wR (eLc it g t e vs η S) Q = wR (it η S) fun I S1 => ∃ acc S2, lcF I.src g t e (wipeD η vs) I.items S1 [] = some (acc, S2) ∧ Q (.ref S2.length) (S2 ++ [.lst acc]) := by
  unfold eLc
  cases it η S with
  | ok I S1 =>
    simp only [wR_ok]
    cases h : lcF I.src g t e (wipeD η vs) I.items S1 [] with
    | none => simp [wR]
    | some p => 
      obtain ⟨a, b⟩ := p
      exact propext ⟨fun z => ⟨a, b, rfl, z⟩, fun ⟨_, _, e, z⟩ => by cases e; exact z⟩
  | _ => rfl
theorem w_tyes : wR (tYes' η S) QT = QT true S := rfl
/-- a method call: none is walked here but by its own function -/
theorem w_meth0 {c : Nat} {m : Str} {F : List D → M D} {fo : DE} : wR (eMeth c m F fo aNil η S) Q = wR (fo η S) fun o S1 => ∃ r fs, o = .ref r ∧ S1[r]? = some (.ins c fs) ∧ fs.lookup m = none ∧ wR (F [.ref r] S1) Q := by
  simp only [eMeth, wR_bind]
  congr 1; funext o S1
  cases o with
  | ref r =>
    cases h : S1[r]? with
    | none => simp [h, wR]
    | some ob =>
      cases ob with
      | ins c' fs =>
        refine propext ⟨fun z => ?_, fun ⟨r', fs', e1, e2, h3, z⟩ => ?_⟩
        · by_cases hc : c' = c ∧ fs.lookup m = none
          · simp only [h, if_pos hc, wR_bind, w_nil] at z
            exact ⟨r, fs, rfl, by rw [h, hc.1], hc.2, z⟩
          · simp only [h, if_neg hc] at z; exact False.elim z
        · cases e1
          rw [h] at e2; cases e2
          simp only [h, h3, and_self, if_true, wR_bind, w_nil]
          exact z
      | _ => simp [h, wR]
  | _ => simp [wR]
theorem w_nex {c : Nat} {F : List D → M D} {fa fb : DE} : wR (eNeX c F fa fb η S) Q = wR (fa η S) fun x S1 => wR (fb η S1) fun y S2 => wR (neX c F x y S2) Q := by simp only [eNeX, wR_bind]
theorem w_iseq {fe : DE} {QI : Itm → Store → Prop} : wR (iSeq fe η S) QI = wR (fe η S) fun d S1 => wR (iSeq (eC d) η S1) QI := by
  simp only [iSeq, wR_bind, w_c]
theorem w_rng1 {fa : DA} {QI : Itm → Store → Prop} : wR (DL.iRng1 fa η S) QI = wR (fa η S) fun ds S1 => ∃ j, ds = [.int j] ∧ -(2 ^ 62) ≤ j ∧ j < 2 ^ 62 ∧ QI ⟨rangeD 0 j.toNat, []⟩ S1 := by
  simp only [DL.iRng1, wR_bind]
  congr 1; funext ds S1
  match ds with
  | [] => simp [wR]
  | [d] =>
    cases d with
    | int j =>
      refine propext ⟨fun z => ?_, fun ⟨j', e1, h1, h2, z⟩ => ?_⟩
      · by_cases h : -(2 ^ 62) ≤ j ∧ j < 2 ^ 62
        · simp only [if_pos h] at z
          exact ⟨j, rfl, h.1, h.2, z⟩
        · simp only [if_neg h] at z; exact False.elim z
      · cases e1
        simp only [if_pos (And.intro h1 h2)]
        exact z
    | _ => simp [wR]
  | _ :: _ :: _ => simp [wR]
/-! ### built-in operators on known kinds -/
variable {i j : Int} {x y : Str} {l m : List D} {r q : Nat}
theorem wp_add : wP (pAdd (.int i) (.int j) S) Q = Q (.int (i + j)) S := rfl
theorem wp_iadd : wP (pIAdd (.int i) (.int j) S) Q = Q (.int (i + j)) S := rfl
theorem wp_sub : wP (pSub (.int i) (.int j) S) Q = Q (.int (i - j)) S := rfl
theorem wp_neg : wP (pNeg (.int i) S) Q = Q (.int (-i)) S := rfl
theorem wp_if {c : Prop} [Decidable c] {d : D} {S' : Store} : wP (if c then some (d, S') else none) Q = (c ∧ Q d S') := by
  by_cases h : c <;> simp [h, wP]
theorem wp_mul : wP (pMul (.int i) (.int j) S) Q = (CMul i j ∧ Q (.int (i * j)) S) := wp_if
theorem wp_mulS : wP (pMul (.str x) (.int j) S) Q = ((2 ≤ j ∧ j ≤ 1000 ∧ 1 ≤ x.length ∧ x.length ≤ 1000) ∧ Q (.str (repS x j)) S) := wp_if
theorem wp_mulT : wP (pMul (.tup l) (.int j) S) Q = ((l ≠ [] ∧ 2 ≤ j ∧ j ≤ 1000 ∧ l.length ≤ 1000) ∧ Q (.tup (List.replicate j.toNat l).flatten) S) := wp_if
theorem wp_mod : wP (pMod (.int i) (.int j) S) Q = (0 < j ∧ Q (.int (i % j)) S) := wp_if
theorem wp_fdiv : wP (pFDiv (.int i) (.int j) S) Q = (CDivW i j ∧ Q (.int (i / j)) S) := wp_if
theorem wp_pow : wP (pPow (.int i) (.int j) S) Q = (CPow i j ∧ Q (.int (i ^ j.toNat)) S) := wp_if
theorem wp_addS : wP (pAdd (.str x) (.str y) S) Q = (x.length + y.length ≤ sizeLine ∧ Q (.str (x ++ y)) S) := wp_if
theorem wp_addT : wP (pAdd (.tup l) (.tup m) S) Q = (l.length + m.length ≤ sizeLine ∧ Q (.tup (l ++ m)) S) := wp_if
theorem wp_addL (h1 : S[r]? = some (.lst l)) (h2 : S[q]? = some (.lst m)) : wP (pAdd (.ref r) (.ref q) S) Q = (l.length + m.length ≤ sizeLine ∧ Q (.ref S.length) (S ++ [.lst (l ++ m)])) := by
  simp only [pAdd, h1, h2]
  exact wp_if
theorem wp_eqII : wP (pEq (.int i) (.int j) S) Q = Q (.bl (i == j)) S := rfl
theorem wp_eqSS : wP (pEq (.str x) (.str y) S) Q = Q (.bl (x == y)) S := rfl
theorem wp_eqNS : wP (pEq .non (.str y) S) Q = Q (.bl false) S := rfl
theorem wp_neBB {b c : Bool} : wP (pNe (.bl b) (.bl c) S) Q = Q (.bl (!(b == c))) S := rfl
theorem wp_lt : wP (pLt (.int i) (.int j) S) Q = Q (.bl (decide (i < j))) S := rfl
theorem wp_le : wP (pLe (.int i) (.int j) S) Q = Q (.bl (decide (i ≤ j))) S := rfl
theorem wp_gt : wP (pGt (.int i) (.int j) S) Q = Q (.bl (decide (j < i))) S := rfl
theorem wp_ge : wP (pGe (.int i) (.int j) S) Q = Q (.bl (decide (j ≤ i))) S := rfl
theorem wp_int1 : wP (pInt1 [.int i] S) Q = Q (.int i) S := rfl
theorem wp_abs : wP (pAbs [.int i] S) Q = Q (.int (if i < 0 then -i else i)) S := rfl
theorem wp_min : wP (pMin2 [.int i, .int j] S) Q = Q (.int (if j < i then j else i)) S := rfl
theorem wp_lenT : wP (pLen [.tup l] S) Q = Q (.int l.length) S := rfl
theorem wp_lenF : wP (pLen [.fro l] S) Q = Q (.int l.length) S := rfl
theorem wp_lenS : wP (pLen [.str x] S) Q = (x.length ≤ sizeLine ∧ Q (.int x.length) S) := wp_if
theorem wp_lenL (h : S[r]? = some (.lst l)) : wP (pLen [.ref r] S) Q = Q (.int l.length) S := by simp [pLen, h, wP]
theorem wp_isN : wP (pIsN .non .non S) Q = Q (.bl true) S := rfl
theorem wp_isNs : wP (pIsN (.str x) .non S) Q = Q (.bl false) S := rfl
theorem wp_rev : wP (pRev (.tup l) S) Q = Q (.tup l.reverse) S := rfl
theorem wp_tupL (h : S[r]? = some (.lst l)) : wP (pTupOf [.ref r] S) Q = Q (.tup l) S := by simp [pTupOf, seqOf, h, wP]
theorem wp_listT : wP (pListOf [.tup l] S) Q = Q (.ref S.length) (S ++ [.lst l]) := rfl
theorem wp_listS : wP (pListOf [.str x] S) Q = (x.length ≤ sizeLine ∧ Q (.ref S.length) (S ++ [.lst (x.cps.toList.map fun c => .str ⟨#[c]⟩)])) := wp_if
theorem wp_slT {lo hi : Option Int} : wP (pSl (.tup l) lo hi S) Q = Q (.tup (cutD l lo hi)) S := rfl
theorem wp_slF {lo hi : Option Int} : wP (pSl (.fro l) lo hi S) Q = Q (.ref S.length) (S ++ [.lst (cutD l lo hi)]) := rfl
theorem wp_ix {d : D} (hr : S[r]? = some (.lst l)) (hx : atI l i = some d) : wP (pIx (.ref r) (.int i) S) Q = Q d S := by
  simp [pIx, seqOf, hr, hx, wP]
theorem wp_ixT {d : D} (hx : atI l i = some d) : wP (pIx (.tup l) (.int i) S) Q = Q d S := by
  simp [pIx, seqOf, hx, wP]
theorem atI_nat {α : Type} {l : List α} {i : Int} {x : α} (h0 : 0 ≤ i) (h : l[i.toNat]? = some x) : atI l i = some x := by
  have hl := (List.getElem?_eq_some_iff.mp h).1
  unfold atI ixN
  rw [if_pos h0, if_pos (by omega)]
  exact h
theorem wp_app {d : D} (h : S[r]? = some (.lst l)) (hl : l.length < sizeLine) : wP (mLst gAppend (.ref r) [d] S) Q = Q .non (S.set r (.lst (l ++ [d]))) := by
  simp only [mLst, h, gAppend, if_pos hl]
  rfl
theorem wp_pop {d : D} (h : S[r]? = some (.lst l)) (hl : l[l.length - 1]? = some d) : wP (mLst gPop (.ref r) [] S) Q = Q d (S.set r (.lst l.dropLast)) := by
  simp only [mLst, h, gPop, hl]
  rfl
theorem wp_ext (h : S[r]? = some (.lst l)) (h2 : S[q]? = some (.lst m)) (hl : l.length + m.length ≤ sizeLine) : wP (mLst gExtend (.ref r) [.ref q] S) Q = Q .non (S.set r (.lst (l ++ m))) := by
  simp only [mLst, h, gExtend, h2, if_pos hl]
  rfl
theorem ws_set {d : D} {k : Nat} {QS : Store → Prop} (h : S[r]? = some (.lst l)) (hk : ixN l.length i = some k) : wS (setL (.ref r) (.int i) d S) QS = QS (S.set r (.lst (l.set k d))) := by
  simp only [setL, h, hk]
  rfl
end
end DL

set_option Elab.async false
set_option linter.all false
set_option maxRecDepth 100000
set_option maxHeartbeats 1000000
/-! Globals as constants, bundles of methods. -/
namespace DL
open PySem PySem.Spec L2
open PyProof.Rows hiding St
section
variable {K : PySem.W.Frag} {cls : Nat → Addr} {W : WX} {X : Cx}
theorem de_gint {x : Str} {i : Int} {pos : Pos} (hm : ∃ t, X.mg x = some (.int i t)) (hg : Gl X x) (hd : (x == ("__debug__" : Str)) = false := by decide) : PE X (.Name x pos) (upE X.K cls W (eC (.int i))) := by
  obtain ⟨t, hm⟩ := hm
  exact de_c (pe_glob (v := .int i) hg hm ⟨t, rfl⟩ hd) fun _ _ => .int i
theorem de_gstr {x z : Str} {pos : Pos} (hm : ∃ t, X.mg x = some (.str z t)) (hg : Gl X x) (hd : (x == ("__debug__" : Str)) = false := by decide) : PE X (.Name x pos) (upE X.K cls W (eC (.str z))) := by
  obtain ⟨t, hm⟩ := hm
  exact de_c (pe_glob (v := .str z) hg hm ⟨t, rfl⟩ hd) fun _ _ => .str z
end
section
variable {P : Program} {w : World} {mg : Str → Option Value} {base : Heap} {K : PySem.W.Frag} {cls : Nat → Addr} {x qual : Str} {params : Arguments} {body : List Stmt} {scope : Scope} {f : Addr} {fd : FuncData} {N ps : List Str} {c k n m : Nat} {B : DS}
theorem mkMk {C : Str} (hg : mg C = some (.ref (cls c))) (F : FunD K x qual params body scope [] [] f fd) (M : Mk K (cls c) f) (S : FnScope N ps scope) (hn : ps.length = n) (hm : N.length = m) (hbi : Binds K fd ps [])
    (hb : ∀ (cdv : Value) (A : Around) (outer : List Env) (s : Shared) (H : Hp) (E : XK), Room k (A.deeper (envOfC qual scope s.heap.objs.size f cdv)) → Good (cxOf (L2.CX P w) P w K mg base N qual scope f cdv A outer s H E) (WD E) →
      PSs (cxOf (L2.CX P w) P w K mg base N qual scope f cdv A outer s H E) body (upS K cls (WD E) B)) : MkB P w K mg base cls C c (k + 1) n (runD n m B) :=
  ⟨⟨hg, f, fd, ps, M, hbi, hn, okD F S hn hm hb⟩, runD_len⟩
theorem mkMt {m' : Str} (F : FunD K x qual params body scope [] [] f fd) (M : Meth K (cls c) m' f) (S : FnScope N ps scope) (hn : ps.length = n) (hm : N.length = m) (hbi : Binds K fd ps [])
    (hb : ∀ (cdv : Value) (A : Around) (outer : List Env) (s : Shared) (H : Hp) (E : XK), Room k (A.deeper (envOfC qual scope s.heap.objs.size f cdv)) → Good (cxOf (L2.CX P w) P w K mg base N qual scope f cdv A outer s H E) (WD E) →
      PSs (cxOf (L2.CX P w) P w K mg base N qual scope f cdv A outer s H E) body (upS K cls (WD E) B)) : MtB P w K mg base cls c m' (k + 1) n (runD n m B) :=
  ⟨⟨f, fd, ps, M, hbi, hn, okD F S hn hm hb⟩, runD_len⟩
theorem MkB.mono {x : Str} {j : Nat} {F : List D → M D} (h : MkB P w K mg base cls x c j n F) (hj : j ≤ k) : MkB P w K mg base cls x c k n F := by
  obtain ⟨⟨a, f, fd, ps, b, d, e, g⟩, l⟩ := h
  exact ⟨⟨a, f, fd, ps, b, d, e, g.mono hj⟩, l⟩
/-- a class's own __eq__ -/
structure EqB (P : Program) (w : World) (K : PySem.W.Frag) (mg : Str → Option Value) (base : Heap) (cls : Nat → Addr) (c k n : Nat) (F : List D → M D) : Prop where
  ex : ∃ (f : Addr) (fd : FuncData) (ps : List Str), EqOk K (cls c) f ∧ Binds K fd ps [] ∧ ps.length = n ∧ FnOk P w K mg base (L2.CX P w) k f fd ps (spD K cls n F)
  hlen : ∀ ds : List D, ∀ S, F ds S = .bad ∨ ds.length = n
theorem mkEq (F : FunD K x qual params body scope [] [] f fd) (M : EqOk K (cls c) f) (S : FnScope N ps scope) (hn : ps.length = n) (hm : N.length = m) (hbi : Binds K fd ps [])
    (hb : ∀ (cdv : Value) (A : Around) (outer : List Env) (s : Shared) (H : Hp) (E : XK), Room k (A.deeper (envOfC qual scope s.heap.objs.size f cdv)) → Good (cxOf (L2.CX P w) P w K mg base N qual scope f cdv A outer s H E) (WD E) →
      PSs (cxOf (L2.CX P w) P w K mg base N qual scope f cdv A outer s H E) body (upS K cls (WD E) B)) : EqB P w K mg base cls c (k + 1) n (runD n m B) :=
  ⟨⟨f, fd, ps, M, hbi, hn, okD F S hn hm hb⟩, runD_len⟩
theorem EqB.mono {j : Nat} {F : List D → M D} (h : EqB P w K mg base cls c j n F) (hj : j ≤ k) : EqB P w K mg base cls c k n F := by
  obtain ⟨⟨f, fd, ps, b, d, e, g⟩, l⟩ := h
  exact ⟨⟨f, fd, ps, b, d, e, g.mono hj⟩, l⟩
end
section
variable {K : PySem.W.Frag} {cls : Nat → Addr} {W : WX} {X : Cx}
theorem op_eqB {c k n : Nat} {F : List D → M D} (G : EqB X.prog X.w X.K X.mg X.base cls c k n F) (hr : Room (k + 1) X.A) : OpR X (compareOp .NotEq) (upX X.K cls (neX c F)) := by
  obtain ⟨⟨f, fd, ps, b, d, e, g⟩, l⟩ := G
  exact op_neX (CX := L2.CX X.prog X.w) b g d hr l (room_hu hr)
theorem deB_neX {c : Nat} {F : List D → M D} {a b : Expr} {fa fb : DE} {pos : Pos} (ho : OpR X (compareOp .NotEq) (upX X.K cls (neX c F))) (ha : PE X a (upE X.K cls W fa)) (hb : PE X b (upE X.K cls W fb)) : PE X (.Compare a [.NotEq] [b] pos) (upE X.K cls W (eNeX c F fa fb)) :=
  PE.weak (pe_cmpR ho ha hb (nomark _)) fun _ _ _ h => tOpX_up neX_ne h
theorem dtB_neX {c : Nat} {F : List D → M D} {a b : Expr} {fa fb : DE} {pos : Pos} (ho : OpR X (compareOp .NotEq) (upX X.K cls (neX c F))) (ha : PE X a (upE X.K cls W fa)) (hb : PE X b (upE X.K cls W fb)) : PT X (.Compare a [.NotEq] [b] pos) (upT X.K cls W (tVal (eNeX c F fa fb))) :=
  PT.weak (pt_cmpR ho ha hb (nomark _)) fun _ _ _ h => tOpX_up neX_ne (tVal_up h)
end
end DL

set_option Elab.async false
set_option linter.all false
set_option maxRecDepth 100000
set_option maxHeartbeats 1000000
/-! The law's end, with what its input's bits are. -/
namespace DL
open PySem PySem.Spec L2
open PyProof.Rows hiding St
theorem cx_never {P : Program} {w : World} {H : Hp} {s : Shared} {e : Value} {s' : Shared} (h : L2.CX P w [] H s (fun _ _ _ => False) e s') : False := by
  obtain ⟨_, _, _, _, _, _, _, _, _, _, _, _, z⟩ := h
  exact z.elim
theorem walk_dl {l : PySem.W.OpenLaw} {n k : Nat} {q : Program} {loose : List Str} {XP : (Str → Option Value) → Heap → Prop} {YP : World → Heap → Prop} {d : DefRec} {x : Str}
    (hn : l.most = some n) (hn2 : n ≤ sizeLine) (hdf : d.params.defaults = []) (hr : Room k callerA)
    (F : ∀ (w : World) (mg : Str → Option Value) (fa : Addr) (h : Heap), YP w h → h.Ns mainGlobals mg → mg d.name = some (.ref fa) →
      ∃ (K : PySem.W.Frag) (fd : FuncData) (sp : Sp), K.In h ∧ (∀ (s : Shared) (u : Value), BindsTo s fd ⟨[u], []⟩ [(x, u)]) ∧
        (∀ (H : Hp) (a : Addr) (ns : List Int), ns.length ≤ n → (∀ z ∈ ns, Builtin.Int.intBits z ≤ 1048576) → Only H → SqL K H a (ns.map V.int) → sp [.ref a] H (fun v _ => v = .bl true) fun _ _ _ => False) ∧
        ∀ base : Heap, K.In base → base.Ns mainGlobals mg → FnOk l.prog w K mg base (L2.CX l.prog w) k fa fd [x] sp) :
    PySem.W.WalkO q loose XP YP l.row.toRowW d [] (fun f vs => PySem.call f vs) := by
  refine Att.attach_callB hn hdf fun w s₀ s₁ mg mb fa o pm cd doc a vs ns G Y ho hd hcd hmg hobj hints hlen hbits hg => ?_
  obtain ⟨K, fd, sp, KX, hb, hsp, hF⟩ := F w mg fa _ Y G.T.g hmg
  exact law_call KX G.T.g G.T.b G.T.builtins G.T.nolimit hg hobj hints (Nat.le_trans hlen hn2) hr hF hb (fun H hO hS => hsp H a ns hlen hbits hO hS) fun H e s' => cx_never
/-- a class's own __eq__, as a Bool -/
def eqB (K : PySem.W.Frag) (C : Addr) : Bool := decide (PySem.W.mroIn K C (.type "object") = some true) && decide (PySem.W.findIn K (.ref C) "__ne__" = some (some (.builtin "object.__ne__")))
theorem eqB_ok {K : PySem.W.Frag} {C f : Addr} (h : eqB K C = true) (m : Meth K C "__eq__" f) : EqOk K C f := by
  obtain ⟨h1, h2⟩ := Bool.and_eq_true_iff.mp h
  exact ⟨of_decide_eq_true h1, of_decide_eq_true h2, m.at_, m.fn⟩
end DL

set_option Elab.async false
set_option linter.all false
set_option maxRecDepth 100000
set_option maxHeartbeats 4000000
namespace K01
open PySem PySem.Spec L2 DL
open PyProof.Rows hiding St
/-! what the defs of the text do (printed by gen.py) -/
noncomputable def B_Town_all_parts : DS :=
  (sRet (eTup (aCons (eUn (pFld [0] "nodes") (eVar 0)) (aCons (eUn (pFld [0] "wires") (eVar 0)) (aCons (eUn (pFld [0] "loss") (eVar 0)) (aCons (eUn (pFld [0] "most") (eVar 0)) (aCons (eUn (pFld [0] "root") (eVar 0)) aNil)))))))
noncomputable def f_Town_all_parts : List D → M D := runD 1 1 B_Town_all_parts
noncomputable def B_Town_eq : DS :=
  (sRet (eAnd (eUn (pIsO 1 0) (eVar 1)) (eBin pEq (eMeth 0 "all_parts" f_Town_all_parts (eVar 0) aNil) (eMeth 0 "all_parts" f_Town_all_parts (eVar 1) aNil))))
noncomputable def f_Town_eq : List D → M D := runD 2 2 B_Town_eq
noncomputable def B__law_draw : DS :=
  (sSeq (sIf (tAnd' (tVal (eBin pEq (eBin pIx (eVar 0) (eC (.int 2))) (eC (.int 0)))) (tVal (eBin pLt (eBin pIx (eVar 0) (eC (.int 1))) (eCB pLen (aCons (eBin pIx (eVar 0) (eC (.int 0))) aNil))))) (sSeq (sSet (.nm 2) (eBin pIx (eBin pIx (eVar 0) (eC (.int 0))) (eBin pIx (eVar 0) (eC (.int 1)))))
   (sSeq (sPut setL (eBin pAdd (eBin pIx (eVar 0) (eC (.int 1))) (eC (.int 1))) (eVar 0) (eC (.int 1)))
   (sSeq (sPut setL (eBin pMod (eCB pInt1 (aCons (eBin pAdd (eBin pAdd (eBin pMul (eBin pIx (eVar 0) (eC (.int 3))) (eC (.int 69621))) (eVar 2)) (eC (.int 11))) aNil)) (eC (.int 2147483629))) (eVar 0) (eC (.int 3)))
   (sIf (tVal (eBin pGe (eVar 2) (eBin pPow (eC (.int 10)) (eC (.int 18))))) (sPut setL (eVar 2) (eVar 0) (eC (.int 2))) sNext)))) sNext)
  (sSeq (sIf (tVal (eBin pGt (eBin pIx (eVar 0) (eC (.int 2))) (eC (.int 0)))) (sSeq (sSet (.nm 3) (eBin pMod (eCB pInt1 (aCons (eBin pIx (eVar 0) (eC (.int 2))) aNil)) (eVar 1)))
   (sSeq (sPut setL (eBin pFDiv (eBin pIx (eVar 0) (eC (.int 2))) (eVar 1)) (eVar 0) (eC (.int 2)))
   (sRet (eVar 3)))) sNext)
  (sSeq (sPut setL (eBin pAdd (eBin pIx (eVar 0) (eC (.int 4))) (eC (.int 1))) (eVar 0) (eC (.int 4)))
  (sSeq (sSet (.nm 4) (eBin pMod (eCB pInt1 (aCons (eBin pMul (eBin pAdd (eBin pIx (eVar 0) (eC (.int 3))) (eBin pMul (eC (.int 7919)) (eBin pIx (eVar 0) (eC (.int 4))))) (eC (.int 48271))) aNil)) (eC (.int 2147483647))))
  (sSeq (sSet (.nm 4) (eBin pMod (eCB pInt1 (aCons (eBin pMul (eVar 4) (eBin pAdd (eBin pFDiv (eVar 4) (eC (.int 1009))) (eC (.int 69621)))) aNil)) (eC (.int 2147483647))))
  (sSeq (sSet (.nm 4) (eBin pMod (eCB pInt1 (aCons (eBin pMul (eVar 4) (eBin pAdd (eBin pFDiv (eVar 4) (eC (.int 2003))) (eC (.int 40692)))) aNil)) (eC (.int 2147483399))))
  (sRet (eBin pMod (eCB pInt1 (aCons (eBin pFDiv (eVar 4) (eC (.int 16))) aNil)) (eVar 1)))))))))
noncomputable def f__law_draw : List D → M D := runD 2 5 B__law_draw
noncomputable def B_is_tuple_of : DS :=
  (sRet (eAnd (eUn (pIsi 1 "tuple") (eVar 0)) (eBin pEq (eCB pLen (aCons (eVar 0) aNil)) (eVar 1))))
noncomputable def f_is_tuple_of : List D → M D := runD 2 2 B_is_tuple_of
noncomputable def B_is_integer : DS :=
  (sRet (eAnd (eUn (pIsi 1 "int") (eVar 0)) (eNot (eUn (pIsi 1 "bool") (eVar 0)))))
noncomputable def f_is_integer : List D → M D := runD 1 1 B_is_integer
noncomputable def B_is_within : DS :=
  (sRet (eAnd (eCall f_is_integer (aCons (eVar 0) aNil)) (eChain pLe pLe (eVar 1) (eVar 0) (eVar 2))))
noncomputable def f_is_within : List D → M D := runD 3 3 B_is_within
noncomputable def B_are_wires : DS :=
  (sSeq (sIf (tOr' (tNot' (tVal (eUn (pIsi 1 "tuple") (eVar 0)))) (tVal (eBin pGt (eCB pLen (aCons (eVar 0) aNil)) (eC (.int 20))))) (sRet (eC (.bl false))) sNext)
  (sSeq (sFor (iSeq (eVar 0)) (.nm 2) (sSeq (sIf (tOr' (tNot' (tVal (eCall f_is_tuple_of (aCons (eVar 2) (aCons (eC (.int 2)) aNil))))) (tOr' (tNot' (tVal (eCall f_is_within (aCons (eBin pIx (eVar 2) (eC (.int 0))) (aCons (eC (.int 0)) (aCons (eBin pSub (eVar 1) (eC (.int 1))) aNil)))))) (tNot' (tVal (eCall f_is_within (aCons (eBin pIx (eVar 2) (eC (.int 1))) (aCons (eC (.int 0)) (aCons (eBin pSub (eVar 1) (eC (.int 1))) aNil)))))))) (sRet (eC (.bl false))) sNext)
   (sIf (tVal (eBin pGe (eBin pIx (eVar 2) (eC (.int 0))) (eBin pIx (eVar 2) (eC (.int 1))))) (sRet (eC (.bl false))) sNext)))
  (sRet (eC (.bl true)))))
noncomputable def f_are_wires : List D → M D := runD 2 3 B_are_wires
noncomputable def B_is_owner : DS :=
  (sRet (eCall f_is_within (aCons (eVar 0) (aCons (eC (.int 10)) (aCons (eBin pSub (eC (.int 100)) (eC (.int 1))) aNil)))))
noncomputable def f_is_owner : List D → M D := runD 1 1 B_is_owner
noncomputable def B_Town_init : DS :=
  (sSeq (sIf (tNot' (tVal (eCall f_is_within (aCons (eVar 1) (aCons (eC (.int 1)) (aCons (eC (.int 9)) aNil)))))) sNever sNext)
  (sSeq (sIf (tNot' (tVal (eCall f_are_wires (aCons (eVar 2) (aCons (eVar 1) aNil))))) sNever sNext)
  (sSeq (sIf (tNot' (tVal (eCall f_is_within (aCons (eVar 3) (aCons (eC (.int 0)) (aCons (eC (.int 3)) aNil)))))) sNever sNext)
  (sSeq (sIf (tNot' (tVal (eCall f_is_within (aCons (eVar 4) (aCons (eC (.int 0)) (aCons (eC (.int 3)) aNil)))))) sNever sNext)
  (sSeq (sIf (tNot' (tVal (eCall f_is_owner (aCons (eVar 5) aNil)))) sNever sNext)
  (sSeq (sFldPut [0] "nodes" (eVar 0) (eVar 1))
  (sSeq (sFldPut [0] "wires" (eVar 0) (eVar 2))
  (sSeq (sFldPut [0] "loss" (eVar 0) (eVar 3))
  (sSeq (sFldPut [0] "most" (eVar 0) (eVar 4))
  (sFldPut [0] "root" (eVar 0) (eVar 5)))))))))))
noncomputable def f_Town_init : List D → M D := runD 6 6 B_Town_init
noncomputable def B__law_some : DS :=
  (sRet (eBin pIx (eVar 1) (eCall f__law_draw (aCons (eVar 0) (aCons (eCB pLen (aCons (eVar 1) aNil)) aNil)))))
noncomputable def f__law_some : List D → M D := runD 2 2 B__law_some
noncomputable def B__law_odd : DS :=
  (sSeq (sSet (.nm 1) (eMake 0 f_Town_init (aCons (eC (.int 1)) (aCons (eTup aNil) (aCons (eC (.int 0)) (aCons (eC (.int 0)) (aCons (eC (.int 10)) aNil)))))))
  (sSeq (sSet (.nm 2) (eLst (aCons (eUn pNeg (eC (.int 1))) (aCons (eC (.bl true)) (aCons (eC (.bl false)) (aCons (eBin pPow (eC (.int 10)) (eC (.int 12))) (aCons (eBin pPow (eC (.int 10)) (eC (.int 30))) (aCons (eBin pMul (eC (.str "x")) (eC (.int 41))) (aCons (eBin pMul (eC (.str "x")) (eC (.int 40))) (aCons (eC (.str "a\nb")) (aCons (eLst aNil) (aCons (eLst (aCons (eC (.int 1)) aNil)) (aCons eDic0 (aCons (eDic1 (.inl 1) (eC (.int 2))) (aCons (eVar 1) (aCons (eTup (aCons (eC (.str "secret")) aNil)) aNil))))))))))))))))
  (sSeq (sSet (.nm 2) (eBin pAdd (eVar 2) (eLst (aCons (eTup (aCons (eC (.str "secret")) (aCons (eUn pNeg (eC (.int 1))) aNil))) (aCons (eTup (aCons (eC (.str "secret")) (aCons (eBin pPow (eC (.int 10)) (eC (.int 9))) aNil))) (aCons (eTup (aCons (eC (.str "secret")) (aCons (eC (.bl true)) aNil))) aNil))))))
  (sSeq (sSet (.nm 2) (eBin pAdd (eVar 2) (eLst (aCons (eTup (aCons (eC (.str "secret")) (aCons (eC (.str "5")) aNil))) (aCons (eTup (aCons (eC (.str "secret")) (aCons (eC (.int 5)) (aCons (eC (.int 6)) aNil)))) (aCons (eTup (aCons (eC (.str "signed")) aNil)) aNil))))))
  (sSeq (sSet (.nm 2) (eBin pAdd (eVar 2) (eLst (aCons (eTup (aCons (eC (.str "signed")) (aCons (eC (.int 3)) aNil))) (aCons (eTup (aCons (eC (.str "signed")) (aCons (eC (.int 1000)) (aCons (eC (.int 1)) aNil)))) (aCons (eTup (aCons (eC (.str "signed")) (aCons (eUn pNeg (eC (.int 1))) (aCons (eC (.int 1)) aNil)))) (aCons (eTup (aCons (eC (.str "signed")) (aCons (eC (.str "3")) (aCons (eC (.int 1)) aNil)))) (aCons (eTup (aCons (eC (.str "signed")) (aCons (eC (.bl true)) (aCons (eC (.int 1)) aNil)))) aNil))))))))
  (sSeq (sSet (.nm 2) (eBin pAdd (eVar 2) (eLst (aCons (eTup (aCons (eC (.str "sealed")) (aCons (eC (.int 3)) (aCons (eC (.int 1)) (aCons (eC (.int 2)) aNil))))) (aCons (eTup (aCons (eC (.str "sealed")) (aCons (eC (.int 1000)) (aCons (eC .non) aNil)))) (aCons (eTup (aCons (eC (.str "sealed")) (aCons (eC (.int 3)) (aCons (eLst (aCons (eC (.int 1)) aNil)) aNil)))) (aCons (eTup (aCons (eC (.str "signed")) (aCons (eC (.int 3)) (aCons (eVar 1) aNil)))) (aCons (eBin pMul (eTup (aCons (eC (.int 1)) aNil)) (eC (.int 60))) aNil))))))))
  (sSeq (sSet (.nm 2) (eBin pAdd (eVar 2) (eLst (aCons (eBin pMul (eTup (aCons (eC (.int 1)) aNil)) (eC (.int 61))) (aCons (eTup (aCons (eLst aNil) aNil)) (aCons (eTup (aCons (eTup aNil) (aCons eDic0 aNil))) (aCons (eTup (aCons (eC (.str "secret")) (aCons (eTup (aCons (eC (.str "secret")) (aCons (eC (.int 1)) aNil))) aNil))) (aCons (eTup (aCons (eTup (aCons (eC (.str "secret")) (aCons (eC (.int 1)) aNil))) (aCons (eC (.str "secret")) aNil))) (aCons (eLst (aCons (eC (.str "secret")) (aCons (eC (.int 1)) aNil))) (aCons (eTup aNil) aNil))))))))))
  (sSeq (sSet (.nm 2) (eBin pAdd (eVar 2) (eLst (aCons (eC (.str "secret")) (aCons (eTup (aCons (eC (.str "sealed")) (aCons (eC .non) (aCons (eC (.int 1)) aNil)))) (aCons (eTup (aCons (eC (.str "signed")) (aCons (eTup (aCons (eC (.int 3)) aNil)) (aCons (eC (.int 1)) aNil)))) (aCons (eTup (aCons (eC .non) (aCons (eC (.bl true)) aNil))) (aCons (eTup (aCons (eC (.str "a")) (aCons (eUn pNeg (eC (.int 1))) aNil))) (aCons (eTup (aCons (eC (.str "Secret")) (aCons (eC (.int 1)) aNil))) (aCons (eTup (aCons (eC (.int 1)) (aCons (eLst (aCons (eC (.int 2)) aNil)) aNil))) aNil))))))))))
  (sRet (eCall f__law_some (aCons (eVar 0) (aCons (eVar 2) aNil))))))))))))
noncomputable def f__law_odd : List D → M D := runD 1 3 B__law_odd
noncomputable def B__law_bent (F : List D → M D) : DS :=
  (sSeq (sIf (tOr' (tNot' (tVal (eUn (pIsi 1 "tuple") (eVar 1)))) (tOr' (tVal (eBin pEq (eCB pLen (aCons (eVar 1) aNil)) (eC (.int 0)))) (tVal (eBin pEq (eCall f__law_draw (aCons (eVar 0) (aCons (eC (.int 4)) aNil))) (eC (.int 0)))))) (sRet (eCall f__law_odd (aCons (eVar 0) aNil))) sNext)
  (sSeq (sPar [2, 3] (aCons (eCall f__law_draw (aCons (eVar 0) (aCons (eCB pLen (aCons (eVar 1) aNil)) aNil))) (aCons (eCall f__law_draw (aCons (eVar 0) (aCons (eC (.int 7)) aNil))) aNil)))
  (sSeq (sIf (tVal (eBin pEq (eVar 3) (eC (.int 0)))) (sRet (eCall f__law_some (aCons (eVar 0) (aCons (eLst (aCons (eCB pListOf (aCons (eVar 1) aNil)) (aCons (eSl (eVar 1) (oSome (eC (.int 1))) oNone) (aCons (eBin pAdd (eVar 1) (eSl (eVar 1) oNone (oSome (eC (.int 1))))) (aCons (eUn pRev (eVar 1)) (aCons (eBin pAdd (eVar 1) (eTup (aCons (eC .non) aNil))) aNil)))))) aNil)))) sNext)
  (sRet (eBin pAdd (eBin pAdd (eSl (eVar 1) oNone (oSome (eVar 2))) (eTup (aCons (eCall F (aCons (eVar 0) (aCons (eBin pIx (eVar 1) (eVar 2)) aNil))) aNil))) (eSl (eVar 1) (oSome (eBin pAdd (eVar 2) (eC (.int 1)))) oNone))))))
noncomputable def f__law_bent : Nat → List D → M D
  | 0 => noD
  | k + 1 => runD 2 4 (B__law_bent (f__law_bent k))
noncomputable def B__law_copied (F : List D → M D) : DS :=
  (sSeq (sIf (tVal (eUn (pIsi 1 "list") (eVar 0))) (sRet (eLc (iSeq (eVar 0)) (.nm 1) tYes' (eCall F (aCons (eVar 1) aNil)) [1])) sNext)
  (sRet (eIf (tVal (eUn (pIsi 1 "tuple") (eVar 0))) (eCB pTupOf (aCons (eLc (iSeq (eVar 0)) (.nm 1) tYes' (eCall F (aCons (eVar 1) aNil)) [1]) aNil)) (eVar 0))))
noncomputable def f__law_copied : Nat → List D → M D
  | 0 => noD
  | k + 1 => runD 1 2 (B__law_copied (f__law_copied k))
noncomputable def B__law_sized (F : List D → M D) : DS :=
  (sSeq (sIf (tVal (eBin pEq (eVar 0) (eC (.int 1)))) (sRet (eC (.int 5))) sNext)
  (sSeq (sPar [1, 2, 3] (aCons (eLst aNil) (aCons (eBin pSub (eVar 0) (eC (.int 1))) (aCons (eIf (tVal (eBin pGt (eVar 0) (eC (.int 3661)))) (eC (.int 3661)) (eIf (tVal (eBin pGt (eVar 0) (eC (.int 61)))) (eC (.int 61)) (eC (.int 1)))) aNil))))
  (sSeq (sWhile (tVal (eBin pGt (eVar 2) (eC (.int 0)))) (sSeq (sDrop (eBM "list" (mLst gAppend) (eVar 1) (aCons (eCall F (aCons (eCB pMin2 (aCons (eVar 2) (aCons (eVar 3) aNil))) aNil)) aNil)))
   (sSet (.nm 2) (eBin pSub (eVar 2) (eCB pMin2 (aCons (eVar 2) (aCons (eVar 3) aNil)))))))
  (sRet (eCB pTupOf (aCons (eVar 1) aNil))))))
noncomputable def f__law_sized : Nat → List D → M D
  | 0 => noD
  | k + 1 => runD 1 4 (B__law_sized (f__law_sized k))
noncomputable def B__law_key : DS :=
  (sRet (eCall f__law_some (aCons (eVar 0) (aCons (eLst (aCons (eC (.int 0)) (aCons (eC (.int 1)) (aCons (eC (.int 2)) (aCons (eC (.int 3)) (aCons (eC (.int 9)) (aCons (eC (.int 10)) (aCons (eC (.int 11)) (aCons (eC (.int 99)) (aCons (eC (.int 100)) (aCons (eC (.int 101)) (aCons (eC (.int 500)) (aCons (eC (.int 999)) aNil))))))))))))) aNil))))
noncomputable def f__law_key : List D → M D := runD 1 1 B__law_key
noncomputable def B__law_word_drawn : DS :=
  (sSeq (sSet (.nm 1) (eLst (aCons (eC (.str "")) (aCons (eC (.str "a")) (aCons (eC (.str "bo")) (aCons (eC (.str "secret")) (aCons (eC (.str "signed")) (aCons (eC (.str "sealed")) (aCons (eC (.str "none")) (aCons (eC (.str "\"")) (aCons (eC (.str "\\")) (aCons (eC (.str "\\\"")) (aCons (eC (.str "?5")) (aCons (eC (.str "(1 2)")) (aCons (eC (.str " ")) (aCons (eC (.str "@3:1")) aNil))))))))))))))))
  (sSeq (sSet (.nm 1) (eBin pAdd (eVar 1) (eLst (aCons (eC (.str "read")) (aCons (eC (.str "~!#")) aNil)))))
  (sSeq (sIf (tVal (eBin pGt (eCall f__law_draw (aCons (eVar 0) (aCons (eC (.int 4)) aNil))) (eC (.int 0)))) (sRet (eCall f__law_some (aCons (eVar 0) (aCons (eVar 1) aNil)))) sNext)
  (sSeq (sSet (.nm 2) (eCall f__law_some (aCons (eVar 0) (aCons (eLst (aCons (eC (.int 3)) (aCons (eC (.int 9)) (aCons (eC (.int 40)) aNil)))) aNil))))
  (sRet (eBM "str" mJoin (eC (.str "")) (aCons (eLc (DL.iRng1 (aCons (eVar 2) aNil)) (.nm 3) tYes' (eCall f__law_some (aCons (eVar 0) (aCons (eCB pListOf (aCons (eC (.str "abz \"\\(){}~?@#:019,")) aNil)) aNil))) [3]) aNil)))))))
noncomputable def f__law_word_drawn : List D → M D := runD 1 4 B__law_word_drawn
noncomputable def B__law_leaf : DS :=
  (sSeq (sSet (.nm 1) (eCall f__law_draw (aCons (eVar 0) (aCons (eC (.int 8)) aNil))))
  (sSeq (sIf (tVal (eBin pLt (eVar 1) (eC (.int 3)))) (sRet (eCall f__law_some (aCons (eVar 0) (aCons (eLst (aCons (eC (.int 0)) (aCons (eC (.int 1)) (aCons (eC (.int 2)) (aCons (eC (.int 3)) (aCons (eC (.int 10)) (aCons (eC (.int 99)) (aCons (eC (.int 100)) (aCons (eC (.int 999)) (aCons (eC (.int 1000)) (aCons (eBin pPow (eC (.int 10)) (eC (.int 9))) (aCons (eBin pSub (eBin pPow (eC (.int 10)) (eC (.int 12))) (eC (.int 1))) (aCons (eCall f__law_draw (aCons (eVar 0) (aCons (eBin pPow (eC (.int 10)) (eC (.int 6))) aNil))) aNil))))))))))))) aNil)))) sNext)
  (sSeq (sIf (tVal (eBin pLt (eVar 1) (eC (.int 5)))) (sRet (eCall f__law_word_drawn (aCons (eVar 0) aNil))) sNext)
  (sSeq (sIf (tVal (eBin pEq (eVar 1) (eC (.int 5)))) (sRet (eC .non)) sNext)
  (sRet (eTup (aCons (eC (.str "secret")) (aCons (eCall f__law_some (aCons (eVar 0) (aCons (eLst (aCons (eC (.int 0)) (aCons (eC (.int 1)) (aCons (eC (.int 2)) (aCons (eC (.int 3)) (aCons (eC (.int 7)) (aCons (eBin pSub (eBin pPow (eC (.int 10)) (eC (.int 9))) (eC (.int 1))) aNil))))))) aNil))) aNil))))))))
noncomputable def f__law_leaf : List D → M D := runD 1 2 B__law_leaf
noncomputable def B__law_term (F : List D → M D) : DS :=
  (sSeq (sSet (.nm 2) (eCall f__law_draw (aCons (eVar 0) (aCons (eC (.int 9)) aNil))))
  (sSeq (sIf (tOr' (tVal (eBin pLt (eVar 1) (eC (.int 2)))) (tVal (eBin pLt (eVar 2) (eC (.int 2))))) (sRet (eCall f__law_leaf (aCons (eVar 0) aNil))) sNext)
  (sSeq (sIf (tVal (eBin pLt (eVar 2) (eC (.int 4)))) (sRet (eTup (aCons (eC (.str "signed")) (aCons (eCall f__law_key (aCons (eVar 0) aNil)) (aCons (eCall F (aCons (eVar 0) (aCons (eBin pSub (eVar 1) (eC (.int 1))) aNil))) aNil))))) sNext)
  (sSeq (sIf (tVal (eBin pLt (eVar 2) (eC (.int 6)))) (sRet (eTup (aCons (eC (.str "sealed")) (aCons (eCall f__law_key (aCons (eVar 0) aNil)) (aCons (eCall F (aCons (eVar 0) (aCons (eBin pSub (eVar 1) (eC (.int 1))) aNil))) aNil))))) sNext)
  (sSeq (sPar [3, 4] (aCons (eCall f__law_some (aCons (eVar 0) (aCons (eLst (aCons (eC (.int 0)) (aCons (eC (.int 1)) (aCons (eC (.int 2)) (aCons (eC (.int 2)) (aCons (eC (.int 3)) (aCons (eC (.int 3)) (aCons (eC (.int 4)) aNil)))))))) aNil))) (aCons (eLst aNil) aNil)))
  (sSeq (sFor (DL.iRng1 (aCons (eVar 3) aNil)) (.nm 5) (sDrop (eBM "list" (mLst gAppend) (eVar 4) (aCons (eCall F (aCons (eVar 0) (aCons (eIf (tVal (eBin pLt (eVar 5) (eC (.int 2)))) (eBin pSub (eVar 1) (eC (.int 1))) (eC (.int 1))) aNil))) aNil))))
  (sSeq (sIf (tAnd' (tVal (eBin pGt (eCB pLen (aCons (eVar 4) aNil)) (eC (.int 0)))) (tVal (eBin pIn (eBin pIx (eVar 4) (eC (.int 0))) (eTup (aCons (eC (.str "secret")) (aCons (eC (.str "signed")) (aCons (eC (.str "sealed")) aNil))))))) (sPut setL (eC (.str "head")) (eVar 4) (eC (.int 0))) sNext)
  (sRet (eCB pTupOf (aCons (eVar 4) aNil))))))))))
noncomputable def f__law_term : Nat → List D → M D
  | 0 => noD
  | k + 1 => runD 2 6 (B__law_term (f__law_term k))
noncomputable def B__law_tower : DS :=
  (sSeq (sSet (.nm 3) (eVar 1))
  (sSeq (sFor (DL.iRng1 (aCons (eVar 2) aNil)) (.nm 4) (sSeq (sSet (.nm 5) (eCall f__law_draw (aCons (eVar 0) (aCons (eC (.int 4)) aNil))))
   (sIf (tVal (eBin pEq (eVar 5) (eC (.int 0)))) (sSet (.nm 3) (eTup (aCons (eC (.str "signed")) (aCons (eCall f__law_key (aCons (eVar 0) aNil)) (aCons (eVar 3) aNil))))) (sIf (tVal (eBin pEq (eVar 5) (eC (.int 1)))) (sSet (.nm 3) (eTup (aCons (eC (.str "sealed")) (aCons (eCall f__law_key (aCons (eVar 0) aNil)) (aCons (eVar 3) aNil))))) (sSet (.nm 3) (eIf (tVal (eBin pNotIn (eVar 3) (eTup (aCons (eC (.str "secret")) (aCons (eC (.str "signed")) (aCons (eC (.str "sealed")) aNil)))))) (eTup (aCons (eVar 3) aNil)) (eTup (aCons (eC (.int 0)) (aCons (eVar 3) aNil)))))))))
  (sRet (eVar 3))))
noncomputable def f__law_tower : List D → M D := runD 3 6 B__law_tower
noncomputable def B__law_great : DS :=
  (sSeq (sSet (.nm 1) (eCall f__law_draw (aCons (eVar 0) (aCons (eC (.int 4)) aNil))))
  (sSeq (sIf (tVal (eBin pEq (eVar 1) (eC (.int 0)))) (sRet (eCall f__law_tower (aCons (eVar 0) (aCons (eCall f__law_some (aCons (eVar 0) (aCons (eLst (aCons (eC (.int 7)) (aCons (eC (.str "x")) (aCons (eC .non) (aCons (eTup aNil) (aCons (eTup (aCons (eC (.str "secret")) (aCons (eC (.int 5)) aNil))) aNil)))))) aNil))) (aCons (eBin pAdd (eC (.int 29)) (eCall f__law_draw (aCons (eVar 0) (aCons (eC (.int 2)) aNil)))) aNil))))) sNext)
  (sSeq (sIf (tVal (eBin pEq (eVar 1) (eC (.int 1)))) (sRet (eCall f__law_tower (aCons (eVar 0) (aCons (eC (.int 7)) (aCons (eBin pAdd (eC (.int 45)) (eCall f__law_draw (aCons (eVar 0) (aCons (eC (.int 12)) aNil)))) aNil))))) sNext)
  (sSeq (sIf (tVal (eBin pEq (eVar 1) (eC (.int 2)))) (sSeq (sSet (.nm 2) (eCall (f__law_sized 40) (aCons (eCall f__law_some (aCons (eVar 0) (aCons (eLst (aCons (eC (.int 4999)) (aCons (eC (.int 5000)) (aCons (eC (.int 5001)) (aCons (eC (.int 5061)) (aCons (eC (.int 3662)) aNil)))))) aNil))) aNil)))
   (sRet (eCall f__law_some (aCons (eVar 0) (aCons (eLst (aCons (eVar 2) (aCons (eTup (aCons (eC (.str "sealed")) (aCons (eC (.int 7)) (aCons (eVar 2) aNil)))) (aCons (eTup (aCons (eBin pAdd (eSl (eVar 2) (oSome (eC (.int 1))) oNone) (eTup (aCons (eTup (aCons (eC (.str "signed")) (aCons (eC (.int 5)) (aCons (eTup (aCons (eC (.str "secret")) (aCons (eC (.int 1)) aNil))) aNil)))) aNil))) (aCons (eBin pIx (eVar 2) (eC (.int 0))) aNil))) aNil)))) aNil))))) sNext)
  (sSeq (sSet (.nm 3) (eBin pMul (eTup (aCons (eCall (f__law_term 40) (aCons (eVar 0) (aCons (eC (.int 2)) aNil))) aNil)) (eC (.int 60))))
  (sRet (eCall f__law_some (aCons (eVar 0) (aCons (eLst (aCons (eBin pAdd (eTup (aCons (eC (.str "a")) aNil)) (eSl (eVar 3) (oSome (eC (.int 1))) oNone)) (aCons (eBin pAdd (eTup (aCons (eC (.str "a")) aNil)) (eVar 3)) (aCons (eBin pAdd (eBin pAdd (eTup (aCons (eC (.int 0)) aNil)) (eSl (eVar 3) oNone (oSome (eC (.int 20))))) (eTup (aCons (eBin pMul (eTup (aCons (eC (.int 1)) aNil)) (eC (.int 61))) aNil))) (aCons (eTup (aCons (eC (.str "a")) (aCons (eBin pMul (eTup (aCons (eC (.int 1)) aNil)) (eC (.int 60))) aNil))) aNil))))) aNil)))))))))
noncomputable def f__law_great : List D → M D := runD 1 4 B__law_great
noncomputable def B__law_hand : DS :=
  (sSeq (sSet (.nm 1) (eLc (iSeq (eSl (eVar 0) oNone (oSome (eC (.int 60))))) (.nm 2) tYes' (eCB pAbs (aCons (eCB pInt1 (aCons (eVar 2) aNil)) aNil)) [2]))
  (sRet (eLst (aCons (eVar 1) (aCons (eC (.int 0)) (aCons (eC (.int 0)) (aCons (eBin pAdd (eC (.int 3)) (eCB pLen (aCons (eVar 1) aNil))) (aCons (eC (.int 0)) aNil))))))))
noncomputable def f__law_hand : List D → M D := runD 1 3 B__law_hand
noncomputable def B__law_is_number : DS :=
  (sRet (eAnd (eUn (pIsi 1 "int") (eVar 0)) (eAnd (eNot (eUn (pIsi 1 "bool") (eVar 0))) (eChain pLe pLt (eC (.int 0)) (eVar 0) (eVar 1)))))
noncomputable def f__law_is_number : List D → M D := runD 2 2 B__law_is_number
noncomputable def B__law_kind : DS :=
  (sSeq (sIf (tVal (eBin pIsN (eVar 0) (eC .non))) (sRet (eC (.str "none"))) sNext)
  (sSeq (sIf (tVal (eUn (pIsi 1 "str") (eVar 0))) (sRet (eIf (tAnd' (tVal (eBin pLe (eCB pLen (aCons (eVar 0) aNil)) (eC (.int 40)))) (tVal (eBin pNotIn (eC (.str "\n")) (eVar 0)))) (eC (.str "string")) (eC (.str "")))) sNext)
  (sSeq (sIf (tNot' (tVal (eUn (pIsi 1 "tuple") (eVar 0)))) (sRet (eIf (tVal (eCall f__law_is_number (aCons (eVar 0) (aCons (eBin pPow (eC (.int 10)) (eC (.int 12))) aNil)))) (eC (.str "number")) (eC (.str "")))) sNext)
  (sSeq (sIf (tAnd' (tVal (eBin pGt (eCB pLen (aCons (eVar 0) aNil)) (eC (.int 0)))) (tAnd' (tVal (eUn (pIsi 1 "str") (eBin pIx (eVar 0) (eC (.int 0))))) (tVal (eBin pIn (eBin pIx (eVar 0) (eC (.int 0))) (eTup (aCons (eC (.str "secret")) (aCons (eC (.str "signed")) (aCons (eC (.str "sealed")) aNil)))))))) (sSeq (sIf (tVal (eBin pEq (eBin pIx (eVar 0) (eC (.int 0))) (eC (.str "secret")))) (sRet (eIf (tAnd' (tVal (eBin pEq (eCB pLen (aCons (eVar 0) aNil)) (eC (.int 2)))) (tVal (eCall f__law_is_number (aCons (eBin pIx (eVar 0) (eC (.int 1))) (aCons (eBin pPow (eC (.int 10)) (eC (.int 9))) aNil))))) (eC (.str "secret")) (eC (.str "")))) sNext)
   (sRet (eIf (tAnd' (tVal (eBin pEq (eCB pLen (aCons (eVar 0) aNil)) (eC (.int 3)))) (tVal (eCall f__law_is_number (aCons (eBin pIx (eVar 0) (eC (.int 1))) (aCons (eC (.int 1000)) aNil))))) (eBin pIx (eVar 0) (eC (.int 0))) (eC (.str ""))))) sNext)
  (sRet (eIf (tVal (eBin pLe (eCB pLen (aCons (eVar 0) aNil)) (eC (.int 60)))) (eC (.str "row")) (eC (.str ""))))))))
noncomputable def f__law_kind : List D → M D := runD 1 1 B__law_kind
noncomputable def B__law_within : DS :=
  (sSeq (sSet (.nm 1) (eCall f__law_kind (aCons (eVar 0) aNil)))
  (sSeq (sIf (tVal (eBin pEq (eVar 1) (eC (.str "row")))) (sRet (eCB pListOf (aCons (eVar 0) aNil))) sNext)
  (sRet (eIf (tVal (eBin pIn (eVar 1) (eTup (aCons (eC (.str "signed")) (aCons (eC (.str "sealed")) aNil))))) (eLst (aCons (eBin pIx (eVar 0) (eC (.int 2))) aNil)) (eLst aNil)))))
noncomputable def f__law_within : List D → M D := runD 1 2 B__law_within
noncomputable def B__law_is_term : DS :=
  (sSeq (sPar [1, 2] (aCons (eC (.int 0)) (aCons (eLst (aCons (eTup (aCons (eVar 0) (aCons (eC (.int 1)) aNil))) aNil)) aNil)))
  (sSeq (sWhile (tVal (eBin pGt (eCB pLen (aCons (eVar 2) aNil)) (eC (.int 0)))) (sSeq (sSet (.tp [3, 4]) (eBM "list" (mLst gPop) (eVar 2) aNil))
   (sSeq (sSet (.nm 1) (eBin pAdd (eVar 1) (eC (.int 1))))
   (sSeq (sIf (tOr' (tVal (eBin pGt (eVar 4) (eC (.int 30)))) (tOr' (tVal (eBin pGt (eVar 1) (eC (.int 5000)))) (tVal (eBin pEq (eCall f__law_kind (aCons (eVar 3) aNil)) (eC (.str "")))))) (sRet (eC (.bl false))) sNext)
   (sDrop (eBM "list" (mLst gExtend) (eVar 2) (aCons (eLc (iSeq (eCall f__law_within (aCons (eVar 3) aNil))) (.nm 5) tYes' (eTup (aCons (eVar 5) (aCons (eBin pAdd (eVar 4) (eC (.int 1))) aNil))) [5]) aNil)))))))
  (sRet (eC (.bl true)))))
noncomputable def f__law_is_term : List D → M D := runD 1 6 B__law_is_term
noncomputable def B_head_word : DS :=
  (sSeq (sIf (tAnd' (tVal (eBin pGt (eCB pLen (aCons (eVar 0) aNil)) (eC (.int 0)))) (tAnd' (tVal (eUn (pIsi 1 "str") (eBin pIx (eVar 0) (eC (.int 0))))) (tVal (eBin pIn (eBin pIx (eVar 0) (eC (.int 0))) (eTup (aCons (eC (.str "signed")) (aCons (eC (.str "sealed")) (aCons (eC (.str "secret")) aNil)))))))) (sRet (eBin pIx (eVar 0) (eC (.int 0)))) sNext)
  (sRet (eC .non)))
noncomputable def f_head_word : List D → M D := runD 1 1 B_head_word
noncomputable def B_inner_of : DS :=
  (sSeq (sIf (tOr' (tNot' (tVal (eUn (pIsi 1 "tuple") (eVar 0)))) (tVal (eBin pEq (eCall f_head_word (aCons (eVar 0) aNil)) (eC (.str "secret"))))) (sRet (eTup aNil)) sNext)
  (sRet (eIf (tVal (eBin pIsN (eCall f_head_word (aCons (eVar 0) aNil)) (eC .non))) (eVar 0) (eSl (eVar 0) (oSome (eC (.int 2))) oNone))))
noncomputable def f_inner_of : List D → M D := runD 1 1 B_inner_of
noncomputable def B_is_string : DS :=
  (sRet (eAnd (eUn (pIsi 1 "str") (eVar 0)) (eAnd (eBin pLe (eCB pLen (aCons (eVar 0) aNil)) (eC (.int 40))) (eCB pAll (aCons (eLc (iSeq (eVar 0)) (.nm 1) tYes' (eChain pLe pLe (eC (.str " ")) (eVar 1) (eC (.str "~"))) [1]) aNil)))))
noncomputable def f_is_string : List D → M D := runD 1 2 B_is_string
noncomputable def B_is_bare : DS :=
  (sRet (eOr (eBin pIsN (eVar 0) (eC .non)) (eOr (eCall f_is_string (aCons (eVar 0) aNil)) (eCall f_is_within (aCons (eVar 0) (aCons (eC (.int 0)) (aCons (eC (.int 999999999999)) aNil)))))))
noncomputable def f_is_bare : List D → M D := runD 1 1 B_is_bare
noncomputable def B_is_shaped : DS :=
  (sSeq (sSet (.nm 1) (eCall f_head_word (aCons (eVar 0) aNil)))
  (sSeq (sIf (tVal (eBin pIsN (eVar 1) (eC .non))) (sRet (eBin pLe (eCB pLen (aCons (eVar 0) aNil)) (eC (.int 60)))) sNext)
  (sSeq (sIf (tVal (eBin pEq (eVar 1) (eC (.str "secret")))) (sRet (eAnd (eBin pEq (eCB pLen (aCons (eVar 0) aNil)) (eC (.int 2))) (eCall f_is_within (aCons (eBin pIx (eVar 0) (eC (.int 1))) (aCons (eC (.int 0)) (aCons (eC (.int 999999999)) aNil)))))) sNext)
  (sRet (eAnd (eBin pEq (eCB pLen (aCons (eVar 0) aNil)) (eC (.int 3))) (eCall f_is_within (aCons (eBin pIx (eVar 0) (eC (.int 1))) (aCons (eC (.int 0)) (aCons (eC (.int 999)) aNil)))))))))
noncomputable def f_is_shaped : List D → M D := runD 1 2 B_is_shaped
noncomputable def B_is_bounded : DS :=
  (sSeq (sSet (.nm 3) (eLst (aCons (eTup (aCons (eVar 0) (aCons (eC (.int 1)) aNil))) aNil)))
  (sSeq (sSet (.nm 4) (eC (.int 0)))
  (sSeq (sWhile (tVal (eBin pGt (eCB pLen (aCons (eVar 3) aNil)) (eC (.int 0)))) (sSeq (sSet (.tp [5, 6]) (eBM "list" (mLst gPop) (eVar 3) aNil))
   (sSeq (sAug 4 pIAdd (eC (.int 1)))
   (sSeq (sIf (tOr' (tVal (eBin pGt (eVar 4) (eVar 2))) (tVal (eBin pGt (eVar 6) (eVar 1)))) (sRet (eC (.bl false))) sNext)
   (sIf (tVal (eUn (pIsi 1 "tuple") (eVar 5))) (sSeq (sIf (tNot' (tVal (eCall f_is_shaped (aCons (eVar 5) aNil)))) (sRet (eC (.bl false))) sNext)
    (sDrop (eBM "list" (mLst gExtend) (eVar 3) (aCons (eLc (iSeq (eCall f_inner_of (aCons (eVar 5) aNil))) (.nm 7) tYes' (eTup (aCons (eVar 7) (aCons (eBin pAdd (eVar 6) (eC (.int 1))) aNil))) [7]) aNil)))) (sIf (tNot' (tVal (eCall f_is_bare (aCons (eVar 5) aNil)))) (sRet (eC (.bl false))) sNext))))))
  (sRet (eC (.bl true))))))
noncomputable def f_is_bounded : List D → M D := runD 3 8 B_is_bounded
noncomputable def B_is_term : DS :=
  (sRet (eCall f_is_bounded (aCons (eVar 0) (aCons (eC (.int 30)) (aCons (eC (.int 5000)) aNil)))))
noncomputable def f_is_term : List D → M D := runD 1 1 B_is_term
noncomputable def B_law : DS :=
  (sSeq (sSet (.nm 1) (eCall f__law_hand (aCons (eVar 0) aNil)))
  (sSeq (sFor (DL.iRng1 (aCons (eC (.int 10)) aNil)) (.nm 2) (sSeq (sSet (.nm 3) (eCall (f__law_term 40) (aCons (eVar 1) (aCons (eBin pAdd (eC (.int 2)) (eCall f__law_draw (aCons (eVar 1) (aCons (eC (.int 6)) aNil)))) aNil))))
   (sFor (iSeq (eLst (aCons (eVar 3) (aCons (eCall (f__law_bent 40) (aCons (eVar 1) (aCons (eVar 3) aNil))) (aCons (eCall (f__law_bent 40) (aCons (eVar 1) (aCons (eVar 3) aNil))) (aCons (eCall f__law_odd (aCons (eVar 1) aNil)) aNil)))))) (.nm 4) (sSeq (sPar [5, 6] (aCons (eCall f__law_is_term (aCons (eVar 4) aNil)) (aCons (eCall (f__law_copied 40) (aCons (eVar 4) aNil)) aNil)))
    (sSeq (sSet (.nm 7) (eCall f_is_term (aCons (eVar 4) aNil)))
    (sIf (tOr' (tNot' (tVal (eUn (pIsi 1 "bool") (eVar 7)))) (tOr' (tVal (eBin pNe (eVar 7) (eVar 5))) (tVal (eNeX 0 f_Town_eq (eVar 4) (eVar 6))))) (sRet (eC (.bl false))) sNext))))))
  (sSeq (sFor (DL.iRng1 (aCons (eC (.int 2)) aNil)) (.nm 2) (sSeq (sSet (.nm 4) (eCall f__law_great (aCons (eVar 1) aNil)))
   (sSeq (sSet (.nm 7) (eCall f_is_term (aCons (eVar 4) aNil)))
   (sIf (tOr' (tNot' (tVal (eUn (pIsi 1 "bool") (eVar 7)))) (tVal (eBin pNe (eVar 7) (eCall f__law_is_term (aCons (eVar 4) aNil))))) (sRet (eC (.bl false))) sNext))))
  (sRet (eC (.bl true))))))
noncomputable def f_law : List D → M D := runD 1 8 B_law
end K01

set_option Elab.async false
set_option linter.all false
set_option maxRecDepth 100000
set_option maxHeartbeats 4000000
/-! k01, the plain side. -/
namespace K01
open PySem PySem.Spec L2 DL
theorem start_def (n : Nat) (ds : List D) : start n ds = ds.map some ++ List.replicate (n - ds.length) none := rfl
local macro_rules | `(tactic| walk_at "wx") => `(tactic| simp -implicitDefEqProofs only [w_runD, w_seq, w_set, w_setT, w_par, w_aug, w_put, w_ret, w_drop, w_sif, w_next, w_never, w_brk, w_cnt, w_var, w_c, w_un, w_bin, w_nil, w_cons, w_tup, w_lst, w_dic0, w_dic1, w_call, w_cb, w_and, w_or, w_not, w_if, w_chain, w_tval, w_tand, w_tor, w_tnot, w_sl, w_onone, w_osome, w_bm, w_make, w_rng1, w_for, w_lc, w_tyes, w_meth0, w_nex, w_fldput,
  start_def, List.map_cons, List.map_nil, List.length_cons, List.length_nil, List.replicate_succ, List.replicate_zero, List.cons_append, List.nil_append, List.set_cons_zero, List.set_cons_succ, getv_0, getv_s, putAll, Nat.reduceAdd, Nat.reduceSub, Nat.zero_add, isB_bl, isI_int, true_and, and_true, if_true, if_false, Bool.false_eq_true, Bool.not_true, Bool.not_false])
/-- the store of this law: the script's piece, its cells, the hand -/
def st (o : O) (cs : List D) (a b c d : Int) (R : Store) : Store := o :: .lst cs :: .lst [.ref 1, .int a, .int b, .int c, .int d] :: R
section
variable {o : O} {cs : List D} {a b c d v : Int} {R : Store} {Q : D → Store → Prop} {QS : Store → Prop}
theorem hx0 : wP (pIx (.ref 2) (.int 0) (st o cs a b c d R)) Q = Q (.ref 1) (st o cs a b c d R) := wp_ix (l := [.ref 1, .int a, .int b, .int c, .int d]) rfl rfl
theorem hx1 : wP (pIx (.ref 2) (.int 1) (st o cs a b c d R)) Q = Q (.int a) (st o cs a b c d R) := wp_ix (l := [.ref 1, .int a, .int b, .int c, .int d]) rfl rfl
theorem hx2 : wP (pIx (.ref 2) (.int 2) (st o cs a b c d R)) Q = Q (.int b) (st o cs a b c d R) := wp_ix (l := [.ref 1, .int a, .int b, .int c, .int d]) rfl rfl
theorem hx3 : wP (pIx (.ref 2) (.int 3) (st o cs a b c d R)) Q = Q (.int c) (st o cs a b c d R) := wp_ix (l := [.ref 1, .int a, .int b, .int c, .int d]) rfl rfl
theorem hx4 : wP (pIx (.ref 2) (.int 4) (st o cs a b c d R)) Q = Q (.int d) (st o cs a b c d R) := wp_ix (l := [.ref 1, .int a, .int b, .int c, .int d]) rfl rfl
theorem hs1 : wS (setL (.ref 2) (.int 1) (.int v) (st o cs a b c d R)) QS = QS (st o cs v b c d R) := rfl
theorem hs2 : wS (setL (.ref 2) (.int 2) (.int v) (st o cs a b c d R)) QS = QS (st o cs a v c d R) := rfl
theorem hs3 : wS (setL (.ref 2) (.int 3) (.int v) (st o cs a b c d R)) QS = QS (st o cs a b v d R) := rfl
theorem hs4 : wS (setL (.ref 2) (.int 4) (.int v) (st o cs a b c d R)) QS = QS (st o cs a b c v R) := rfl
theorem hlen : wP (pLen [.ref 1] (st o cs a b c d R)) Q = Q (.int cs.length) (st o cs a b c d R) := wp_lenL rfl
theorem hcell (ha : 0 ≤ a) (hl : a < cs.length) (hi : ∀ x ∈ cs, ∃ i, x = .int i) : ∃ i, ∀ Q, wP (pIx (.ref 1) (.int a) (st o cs a b c d R)) Q = Q (.int i) (st o cs a b c d R) := by
  have hl' : a.toNat < cs.length := by omega
  obtain ⟨i, e⟩ := hi _ (List.getElem_mem hl')
  refine ⟨i, fun Q => wp_ix (l := cs) rfl (atI_nat ha ?_)⟩
  rw [List.getElem?_eq_getElem hl', e]
end
local macro_rules | `(tactic| walk_at "ops") => `(tactic| simp -implicitDefEqProofs only [wp_add, wp_sub, wp_neg, wp_mul, wp_mod, wp_fdiv, wp_pow, wp_eqII, wp_eqSS, wp_neBB, wp_lt, wp_le, wp_gt, wp_ge, wp_int1, wp_abs, wp_min, wp_iadd, hx0, hx1, hx2, hx3, hx4, hs1, hs2, hs3, hs4, hlen, isB_bl, isI_int])
structure Cells where
  o : O
  cs : List D
  hi : ∀ x ∈ cs, ∃ i, x = .int i
/-- the store S: a hand, and behind it R -/
def Hd (C : Cells) (S R : Store) : Prop := ∃ a b c d, 0 ≤ a ∧ S = st C.o C.cs a b c d R
variable {C : Cells} {S R : Store} {Q : D → Store → Prop}
theorem small_mul {i j : Int} (h1 : -(2 ^ 64) < j) (h2 : j < 2 ^ 64) : CMul i j := .inr ⟨h1, h2⟩
theorem small_div {i j : Int} (h1 : 0 < j) (h2 : j < 2 ^ 64) : CDivW i j := by
  refine ⟨h1, ?_⟩
  have : j.natAbs < 2 ^ 64 := by omega
  have := (Nat.log2_lt (n := j.natAbs) (k := 64) (by omega)).mpr this
  omega
theorem mod_mul {x y m : Int} (h1 : 0 < m) (h2 : m < 2 ^ 64) : CMul (x % m) y := by
  have a := Int.emod_nonneg x (Int.ne_of_gt h1)
  have b := Int.emod_lt_of_pos x h1
  exact .inl ⟨by omega, by omega⟩
local macro_rules | `(tactic| walk_at "dtail") => `(tactic| first
  | exact ⟨by assumption, small_div (by assumption) (by omega), by assumption⟩
  | exact ⟨.inl ⟨by decide, by decide⟩, small_mul (by decide) (by decide), by decide, small_div (by decide) (by decide), mod_mul (by decide) (by decide), by decide, small_div (by decide) (by decide), mod_mul (by decide) (by decide), by decide, small_div (by decide) (by decide), by assumption, by assumption⟩)
theorem draw_ok {many : Int} (h : Hd C S R) (hm : 0 < many) (hm2 : many < 2 ^ 60) (k : ∀ v S', 0 ≤ v → v < many → Hd C S' R → Q (.int v) S') : wR (f__law_draw [.ref 2, .int many] S) Q := by
  obtain ⟨a, b, c, d, ha, rfl⟩ := h
  have q : ∀ (x a b c d : Int), 0 ≤ a → Q (.int (x % many)) (st C.o C.cs a b c d R) := fun x a b c d ha =>
    k _ _ (Int.emod_nonneg _ (Int.ne_of_gt hm)) (Int.emod_lt_of_pos _ hm) ⟨a, b, c, d, ha, rfl⟩
  have t1 : ∀ (a b c d : Int), 0 ≤ a → 0 < many ∧ CDivW b many ∧ Q (.int (b % many)) (st C.o C.cs a (b / many) c d R) := fun a b c d ha => ⟨hm, small_div hm (by omega), q _ _ _ _ _ ha⟩
  unfold f__law_draw B__law_draw
  walk_at "wx"
  walk_at "ops"
  by_cases h1 : (b == 0) = true
  · rw [if_pos h1]
    by_cases h2 : decide (a < (C.cs.length : Int)) = true
    · rw [if_pos h2]
      obtain ⟨i, hi⟩ := hcell (o := C.o) (b := b) (c := c) (d := d) (R := R) ha (of_decide_eq_true h2) C.hi
      rw [hi]
      walk_at "ops"
      refine ⟨small_mul (by decide) (by decide), by decide, ⟨by decide, by decide, by decide⟩, ?_⟩
      have ha' : 0 ≤ a + 1 := by omega
      split
      · split
        · exact t1 _ _ _ _ ha'
        · exact ⟨.inl ⟨by decide, by decide⟩, small_mul (by decide) (by decide), by decide, small_div (by decide) (by decide), mod_mul (by decide) (by decide), by decide, small_div (by decide) (by decide), mod_mul (by decide) (by decide), by decide, small_div (by decide) (by decide), hm, q _ _ _ _ _ ha'⟩
      · split
        · exact t1 _ _ _ _ ha'
        · exact ⟨.inl ⟨by decide, by decide⟩, small_mul (by decide) (by decide), by decide, small_div (by decide) (by decide), mod_mul (by decide) (by decide), by decide, small_div (by decide) (by decide), mod_mul (by decide) (by decide), by decide, small_div (by decide) (by decide), hm, q _ _ _ _ _ ha'⟩
    · rw [if_neg h2]
      split
      · exact t1 _ _ _ _ ha
      · exact ⟨.inl ⟨by decide, by decide⟩, small_mul (by decide) (by decide), by decide, small_div (by decide) (by decide), mod_mul (by decide) (by decide), by decide, small_div (by decide) (by decide), mod_mul (by decide) (by decide), by decide, small_div (by decide) (by decide), hm, q _ _ _ _ _ ha⟩
  · rw [if_neg h1]
    split
    · exact t1 _ _ _ _ ha
    · exact ⟨.inl ⟨by decide, by decide⟩, small_mul (by decide) (by decide), by decide, small_div (by decide) (by decide), mod_mul (by decide) (by decide), by decide, small_div (by decide) (by decide), mod_mul (by decide) (by decide), by decide, small_div (by decide) (by decide), hm, q _ _ _ _ _ ha⟩
end K01

set_option Elab.async false
set_option linter.all false
set_option maxRecDepth 100000
set_option maxHeartbeats 4000000
/-! k01, the plain side: what is drawn. -/
namespace K01
open PySem PySem.Spec L2 DL
local macro_rules | `(tactic| walk_at "wx") => `(tactic| simp -implicitDefEqProofs only [w_runD, w_seq, w_set, w_setT, w_par, w_aug, w_put, w_ret, w_drop, w_sif, w_next, w_never, w_brk, w_cnt, w_var, w_c, w_un, w_bin, w_nil, w_cons, w_tup, w_lst, w_dic0, w_dic1, w_call, w_cb, w_and, w_or, w_not, w_if, w_chain, w_tval, w_tand, w_tor, w_tnot, w_sl, w_onone, w_osome, w_bm, w_make, w_rng1, w_for, w_lc, w_tyes, w_meth0, w_nex, w_fldput,
  start_def, wipeD, List.map_cons, List.map_nil, List.length_cons, List.length_nil, List.replicate_succ, List.replicate_zero, List.cons_append, List.nil_append, List.set_cons_zero, List.set_cons_succ, getv_0, getv_s, putAll, Nat.reduceAdd, Nat.reduceSub, Nat.zero_add, isB_bl, isI_int, true_and, and_true, if_true, if_false, Bool.false_eq_true, Bool.not_true, Bool.not_false])
local macro_rules | `(tactic| walk_at "ops") => `(tactic| simp -implicitDefEqProofs only [wp_add, wp_sub, wp_neg, wp_mul, wp_mod, wp_fdiv, wp_pow, wp_eqII, wp_eqSS, wp_neBB, wp_lt, wp_le, wp_gt, wp_ge, wp_int1, wp_abs, wp_min, wp_iadd, hx0, hx1, hx2, hx3, hx4, hs1, hs2, hs3, hs4, hlen, isB_bl, isI_int])

variable {C : Cells} {S R : Store} {Q : D → Store → Prop} {η : DEnv}
/-! ### the store -/
theorem Hd.at (h : Hd C S R) (r : Nat) : S[r + 3]? = R[r]? := by
  obtain ⟨a, b, c, d, _, rfl⟩ := h
  rfl
theorem Hd.len (h : Hd C S R) : S.length = R.length + 3 := by
  obtain ⟨a, b, c, d, _, rfl⟩ := h
  rfl
theorem Hd.app (h : Hd C S R) (M : Store) : Hd C (S ++ M) (R ++ M) := by
  obtain ⟨a, b, c, d, ha, rfl⟩ := h
  exact ⟨a, b, c, d, ha, rfl⟩
theorem Hd.set (h : Hd C S R) (r : Nat) (o : O) : Hd C (S.set (r + 3) o) (R.set r o) := by
  obtain ⟨a, b, c, d, ha, rfl⟩ := h
  exact ⟨a, b, c, d, ha, rfl⟩
/-! ### what is drawn -/
def gS (x : Str) : Prop := x.length ≤ 1000 ∧ ((∀ c ∈ x.cps.toList, 32 ≤ c ∧ c ≤ 126) ∨ 10 ∈ x.cps.toList)
/-- a thing of tuples alone: rows of at most L, n deep -/
inductive Pu (L : Nat) : Nat → D → Prop
  | non {n : Nat} : Pu L n .non
  | bl {n : Nat} (b : Bool) : Pu L n (.bl b)
  | int {n : Nat} (i : Int) : Pu L n (.int i)
  | str {n : Nat} {x : Str} : gS x → Pu L n (.str x)
  | tup {n : Nat} {l : List D} : l.length ≤ L → (∀ e ∈ l, Pu L n e) → Pu L (n + 1) (.tup l)
theorem Pu.mono {L M n m : Nat} {d : D} (h : Pu L n d) (hL : L ≤ M) (hn : n ≤ m) : Pu M m d := by
  induction h generalizing m with
  | non => exact .non
  | bl b => exact .bl b
  | int i => exact .int i
  | str h => exact .str h
  | tup h t ih =>
    obtain ⟨k, rfl⟩ : ∃ k, m = k + 1 := ⟨m - 1, by omega⟩
    exact .tup (Nat.le_trans h hL) fun e he => ih e he (by omega)
def townFs : List (Str × D) := [("nodes", .int 1), ("wires", .tup []), ("loss", .int 0), ("most", .int 0), ("root", .int 10)]
inductive OkO : O → Prop
  | lst {l : List D} : l.length ≤ 10000 → (∀ e ∈ l, Pu 10000 12 e) → OkO (.lst l)
  | dic {l : List (D × D)} : flatDic l = true → OkO (.dic l)
  | ins : OkO (.ins 0 townFs)
/-- a thing: n deep, what can change in R -/
inductive T (R : Store) : Nat → D → Prop
  | non {n : Nat} : T R n .non
  | bl {n : Nat} (b : Bool) : T R n (.bl b)
  | int {n : Nat} (i : Int) : T R n (.int i)
  | str {n : Nat} {x : Str} : gS x → T R n (.str x)
  | tup {n : Nat} {l : List D} : l.length ≤ 10000 → (∀ e ∈ l, T R n e) → T R (n + 1) (.tup l)
  | ref {n r : Nat} {o : O} : R[r]? = some o → OkO o → T R n (.ref (r + 3))
theorem Pu.T {L n : Nat} {d : D} (h : Pu L n d) (hL : L ≤ 10000) : T R n d := by
  induction h with
  | non => exact .non
  | bl b => exact .bl b
  | int i => exact .int i
  | str h => exact .str h
  | tup h t ih => exact .tup (Nat.le_trans h hL) ih
theorem T.mono {n m : Nat} {d : D} (h : T R n d) (hn : n ≤ m) : T R m d := by
  induction h generalizing m with
  | non => exact .non
  | bl b => exact .bl b
  | int i => exact .int i
  | str h => exact .str h
  | ref h o => exact .ref h o
  | tup h t ih =>
    obtain ⟨k, rfl⟩ : ∃ k, m = k + 1 := ⟨m - 1, by omega⟩
    exact .tup h fun e he => ih e he (by omega)
theorem T.app {n : Nat} {d : D} (h : T R n d) (M : Store) : T (R ++ M) n d := by
  induction h with
  | non => exact .non
  | bl b => exact .bl b
  | int i => exact .int i
  | str h => exact .str h
  | ref h o => exact .ref (by rw [List.getElem?_append_left (List.getElem?_eq_some_iff.mp h).1]; exact h) o
  | tup h t ih => exact .tup h ih
theorem fuel_big {n : Nat} (h : n < 1000000000) : n < fuel := by
  have : (1000000000 : Nat) < fuel := by unfold fuel; decide
  omega
theorem sz_le {n : Nat} (h : n ≤ 16777216) : n ≤ sizeLine := by rw [sizeLine_eq]; exact h
/-! ### one of some -/
theorem some_ok {r : Nat} {l : List D} (h : Hd C S R) (hr : R[r]? = some (.lst l)) (hl : l ≠ []) (hz : l.length < 2 ^ 60) (k : ∀ d ∈ l, ∀ S', Hd C S' R → Q d S') : wR (f__law_some [.ref 2, .ref (r + 3)] S) Q := by
  unfold f__law_some B__law_some
  walk_at "wx"
  rw [wp_lenL (l := l) (by rw [h.at]; exact hr)]
  have h0 : 0 < l.length := List.length_pos_iff.mpr hl
  refine draw_ok h (by omega) (by omega) fun v S' v0 v1 h' => ?_
  have hlt : v.toNat < l.length := by omega
  rw [wp_ix (l := l) (d := l[v.toNat]) (by rw [h'.at]; exact hr) (atI_nat v0 (List.getElem?_eq_getElem hlt))]
  exact k _ (List.getElem_mem hlt) _ h'
theorem some_new {l : List D} {r : Nat} (h : Hd C S R) (e : r = S.length) (hl : l ≠ []) (hz : l.length < 2 ^ 60) (k : ∀ d ∈ l, ∀ S', Hd C S' (R ++ [.lst l]) → Q d S') : wR (f__law_some [.ref 2, .ref r] (S ++ [.lst l])) Q := by
  rw [e, h.len]
  exact some_ok (h.app _) (by simp) hl hz k
/-- one of some ints -/
theorem some_int {l : List D} {r : Nat} (h : Hd C S R) (e : r = S.length) (hl : l ≠ []) (hz : l.length < 2 ^ 60) (hi : ∀ d ∈ l, ∃ i, d = .int i) (k : ∀ i M S', .int i ∈ l → Hd C S' (R ++ M) → Q (.int i) S') : wR (f__law_some [.ref 2, .ref r] (S ++ [.lst l])) Q :=
  some_new h e hl hz fun d hd S' h' => by
    obtain ⟨i, rfl⟩ := hi d hd
    exact k i _ S' hd h'
theorem key_ok (h : Hd C S R) (k : ∀ i M S', Hd C S' (R ++ M) → Q (.int i) S') : wR (f__law_key [.ref 2] S) Q := by
  unfold f__law_key B__law_key
  walk_at "wx"
  refine ⟨sz_le (by decide), some_int h rfl (by simp) (by decide) (by simp) fun i M S' _ h' => k i M S' h'⟩
/-! ### words -/
theorem glued_all {p : Nat → Prop} {sep : Str} (hs : ∀ c ∈ sep.cps.toList, p c) : ∀ {ys : List Str}, (∀ y ∈ ys, ∀ c ∈ y.cps.toList, p c) → ∀ c ∈ (Builtin.Str.glued sep ys).cps.toList, p c := by
  have go : ∀ (ys : List Str) (acc : Array Nat), (∀ c ∈ acc.toList, p c) → (∀ y ∈ ys, ∀ c ∈ y.cps.toList, p c) → ∀ c ∈ (ys.foldl (fun acc q => acc ++ sep.cps ++ q.cps) acc).toList, p c := by
    intro ys
    induction ys with
    | nil => intro acc h _; exact h
    | cons y ys ih =>
      intro acc h hy
      rw [List.foldl_cons]
      refine ih _ (fun c hc => ?_) fun z hz => hy z (List.mem_cons_of_mem _ hz)
      simp only [Array.toList_append, List.mem_append] at hc
      rcases hc with (hc | hc) | hc
      · exact h c hc
      · exact hs c hc
      · exact hy y List.mem_cons_self c hc
  intro ys hy
  unfold Builtin.Str.glued
  refine go _ _ ?_ fun y h => hy y (List.mem_of_mem_drop h)
  cases ys with
  | nil => intro c hc; simp [Str.empty] at hc
  | cons y ys => exact hy y List.mem_cons_self
theorem glued_len {ys : List Str} (h1 : ∀ y ∈ ys, y.length ≤ 1) : (Builtin.Str.glued (⟨#[]⟩ : Str) ys).length ≤ ys.length := by
  have go : ∀ (ys : List Str) (acc : Array Nat), (∀ y ∈ ys, y.length ≤ 1) → (ys.foldl (fun acc q => acc ++ (⟨#[]⟩ : Str).cps ++ q.cps) acc).size ≤ acc.size + ys.length := by
    intro ys
    induction ys with
    | nil => intro acc _; simp
    | cons y ys ih =>
      intro acc hy
      rw [List.foldl_cons]
      have a := ih (acc ++ (⟨#[]⟩ : Str).cps ++ y.cps) fun z hz => hy z (List.mem_cons_of_mem _ hz)
      have b : y.cps.size ≤ 1 := hy y List.mem_cons_self
      simp only [Array.size_append, List.length_cons] at a ⊢
      have : (#[] : Array Nat).size = 0 := rfl
      omega
  unfold Builtin.Str.glued
  cases ys with
  | nil => simp [Str.empty, Str.length]
  | cons y ys =>
    have a := go ys y.cps fun z hz => h1 z (List.mem_cons_of_mem _ hz)
    have b : y.cps.size ≤ 1 := h1 y List.mem_cons_self
    show (ys.foldl (fun acc q => acc ++ (⟨#[]⟩ : Str).cps ++ q.cps) y.cps).size ≤ ys.length + 1
    omega
def word1 (d : D) : Prop := ∃ x : Str, d = .str x ∧ x.length ≤ 1 ∧ ∀ c ∈ x.cps.toList, 32 ≤ c ∧ c ≤ 126
theorem strsOf_w : ∀ {l : List D}, (∀ d ∈ l, word1 d) → ∃ ys, strsOf l = some ys ∧ ys.length = l.length ∧ ∀ y ∈ ys, y.length ≤ 1 ∧ ∀ c ∈ y.cps.toList, 32 ≤ c ∧ c ≤ 126
  | [], _ => ⟨[], rfl, rfl, by simp⟩
  | d :: l, h => by
    obtain ⟨x, rfl, h1, h2⟩ := h d List.mem_cons_self
    obtain ⟨ys, e, el, hy⟩ := strsOf_w fun d hd => h d (List.mem_cons_of_mem _ hd)
    refine ⟨x :: ys, by simp [strsOf, e], by simp [el], fun y hm => ?_⟩
    rcases List.mem_cons.mp hm with rfl | hm
    · exact ⟨h1, h2⟩
    · exact hy y hm
theorem sum_le1 : ∀ {ys : List Str}, (∀ y ∈ ys, y.length ≤ 1) → (ys.map (·.length)).sum ≤ ys.length
  | [], _ => Nat.le_refl _
  | y :: ys, h => by
    have a := sum_le1 fun z hz => h z (List.mem_cons_of_mem _ hz)
    have b := h y List.mem_cons_self
    simp only [List.map_cons, List.sum_cons, List.length_cons]
    omega
def gSb (x : Str) : Bool := decide (x.length ≤ 1000) && x.cps.toList.all fun c => decide (32 ≤ c) && decide (c ≤ 126)
theorem gS_of {x : Str} (h : gSb x = true) : gS x := by
  unfold gSb at h
  simp only [Bool.and_eq_true, decide_eq_true_eq, List.all_eq_true] at h
  exact ⟨h.1, .inl h.2⟩
theorem join_gS {l : List D} {S : Store} {r : Nat} {x : Str} (hx : x = ⟨#[]⟩) (hr : S[r]? = some (.lst l)) (hw : ∀ d ∈ l, word1 d) (hz : l.length ≤ 100) (k : ∀ x, gS x → Q (.str x) S) : wP (mJoin (.str x) [.ref r] S) Q := by
  subst hx
  obtain ⟨ys, e, el, hy⟩ := strsOf_w hw
  have a := sum_le1 fun y hm => (hy y hm).1
  have hc : (ys.map (·.length)).sum + ys.length * (⟨#[]⟩ : Str).length ≤ 16777216 := by
    have : (⟨#[]⟩ : Str).length = 0 := rfl
    rw [this]; omega
  simp only [mJoin, seqOf, hr, e, if_pos hc]
  refine k _ ⟨?_, .inl (glued_all (by simp) fun y hm => (hy y hm).2)⟩
  have b := glued_len fun y hm => (hy y hm).1
  show (Builtin.Str.glued (⟨#[]⟩ : Str) ys).length ≤ 1000
  omega
end K01

set_option Elab.async false
set_option linter.all false
set_option maxRecDepth 100000
set_option maxHeartbeats 4000000
/-! k01, the plain side: terms that are drawn. -/
namespace K01
open PySem PySem.Spec L2 DL
local macro_rules | `(tactic| walk_at "wx") => `(tactic| simp -implicitDefEqProofs only [w_runD, w_seq, w_set, w_setT, w_par, w_aug, w_put, w_ret, w_drop, w_sif, w_next, w_never, w_brk, w_cnt, w_var, w_c, w_un, w_bin, w_nil, w_cons, w_tup, w_lst, w_dic0, w_dic1, w_call, w_cb, w_and, w_or, w_not, w_if, w_chain, w_tval, w_tand, w_tor, w_tnot, w_sl, w_onone, w_osome, w_bm, w_make, w_rng1, w_for, w_lc, w_tyes, w_meth0, w_nex, w_fldput,
  start_def, wipeD, List.map_cons, List.map_nil, List.length_cons, List.length_nil, List.replicate_succ, List.replicate_zero, List.cons_append, List.nil_append, List.set_cons_zero, List.set_cons_succ, getv_0, getv_s, putAll, Nat.reduceAdd, Nat.reduceSub, Nat.zero_add, isB_bl, isI_int, true_and, and_true, if_true, if_false, Bool.false_eq_true, Bool.not_true, Bool.not_false])
local macro_rules | `(tactic| walk_at "ops") => `(tactic| simp -implicitDefEqProofs only [wp_add, wp_sub, wp_neg, wp_mul, wp_mod, wp_fdiv, wp_pow, wp_eqII, wp_eqSS, wp_neBB, wp_lt, wp_le, wp_gt, wp_ge, wp_int1, wp_abs, wp_min, wp_iadd, hx0, hx1, hx2, hx3, hx4, hs1, hs2, hs3, hs4, hlen, isB_bl, isI_int])

variable {C : Cells} {S R : Store} {Q : D → Store → Prop} {η : DEnv}
def wordsB (l : List D) : Bool := l.all fun d => match d with | .str x => gSb x | _ => false
theorem wordsB_ok {l : List D} (h : wordsB l = true) : ∀ d ∈ l, ∃ x, d = .str x ∧ gS x := fun d hd => by
  have := List.all_eq_true.mp h d hd
  cases d with
  | str x => exact ⟨x, rfl, gS_of this⟩
  | _ => cases this
theorem word_ok (h : Hd C S R) (k : ∀ x M S', gS x → Hd C S' (R ++ M) → Q (.str x) S') : wR (f__law_word_drawn [.ref 2] S) Q := by
  unfold f__law_word_drawn B__law_word_drawn
  walk_at "wx"
  refine ⟨sz_le (by decide), sz_le (by decide), ?_⟩
  generalize ha : ([D.str (Str.ofString ""), _, _, _, _, _, _, _, _, _, _, _, _, _] : List D) = la
  generalize hb : ([D.str (Str.ofString "read"), _] : List D) = lb
  have wa : wordsB la = true := by subst ha; decide +kernel
  have wb : wordsB lb = true := by subst hb; decide +kernel
  have na : la.length = 14 := by subst ha; rfl
  have nb : lb.length = 2 := by subst hb; rfl
  rw [wp_addL (l := la) (m := lb) (by simp) (by simp)]
  refine ⟨sz_le (by omega), ?_⟩
  have h3 := ((h.app [.lst la]).app [.lst lb]).app [.lst (la ++ lb)]
  refine draw_ok h3 (by decide) (by decide) fun v S' v0 v1 h4 => ?_
  walk_at "ops"
  split
  · rw [((h.app [.lst la]).app [.lst lb]).len]
    refine some_ok h4 (l := la ++ lb) (by simp) (fun e => by rw [List.append_eq_nil_iff] at e; rw [e.1] at na; cases na) (by rw [List.length_append]; omega) fun d hd S2 h5 => ?_
    have : ∃ x, d = .str x ∧ gS x := by
      rcases List.mem_append.mp hd with q | q
      · exact wordsB_ok wa d q
      · exact wordsB_ok wb d q
    obtain ⟨x, rfl, hx⟩ := this
    refine k x ([.lst la] ++ [.lst lb] ++ [.lst (la ++ lb)]) S2 hx ?_
    simpa using h5
  · refine ⟨sz_le (by decide), some_int h4 rfl (by simp) (by decide) (by simp) fun i M S2 hi h5 => ⟨rfl, ?_⟩⟩
    have hi2 : 0 ≤ i ∧ i ≤ 40 := by
      simp at hi
      omega
    refine ⟨i, rfl, by omega, by omega, ?_⟩
    generalize hR2 : R ++ [O.lst la] ++ [O.lst lb] ++ [O.lst (la ++ lb)] ++ M = R2 at h5
    obtain ⟨acc, S3, e, M2, h6, hw, hn⟩ := w_lcF (src := []) (g := .nm 3) (t := tYes') (e := eCall f__law_some (aCons (eVar 0) (aCons (eCB pListOf (aCons (eC (.str (Str.ofString "abz \"\\(){}~?@#:019,"))) aNil)) aNil))) (η := wipeD [some (D.ref 2), some (D.ref ((S ++ [O.lst la] ++ [O.lst lb]).length)), some (D.int i), none] [3])
      (fun rem acc S => ∃ M, Hd C S (R2 ++ M) ∧ (∀ d ∈ acc, word1 d) ∧ acc.length + rem.length = i.toNat) (K := fun acc S => ∃ M, Hd C S (R2 ++ M) ∧ (∀ d ∈ acc, word1 d) ∧ acc.length ≤ 40) (fun _ _ _ _ => trivial)
      (fun x rem acc S ⟨M, hM, hw, hn⟩ => by
        refine ⟨_, rfl, ?_⟩
        walk_at "wx"
        rw [wp_listS]
        refine ⟨sz_le (by decide), some_new hM rfl (by decide) (by decide) fun d hd S' h' => ⟨sz_le (by simp only [List.length_cons] at hn; omega), M ++ [_], by simpa using h', fun d' hd' => ?_, by simp only [List.length_append, List.length_cons, List.length_nil] at hn ⊢; omega⟩⟩
        rcases List.mem_append.mp hd' with q | q
        · exact hw d' q
        · rw [List.mem_singleton.mp q]
          obtain ⟨c, hc, rfl⟩ := List.mem_map.mp hd
          refine ⟨_, rfl, Nat.le_refl _, fun c' hc' => ?_⟩
          have : c' = c := by simpa using hc'
          subst this
          have all : ((Str.ofString "abz \"\\(){}~?@#:019,").cps.toList.all fun c => decide (32 ≤ c) && decide (c ≤ 126)) = true := by decide +kernel
          have := List.all_eq_true.mp all c' hc
          simpa using this)
      (fun acc S ⟨M, hM, hw, hn⟩ => ⟨M, hM, hw, by simp only [List.length_nil] at hn; omega⟩) (xs := rangeD 0 i.toNat) (S := S2) (acc := []) ⟨[], by simpa using h5, by simp, by simp [rangeD]⟩
    refine ⟨acc, S3, e, ?_⟩
    refine join_gS (l := acc) rfl (by simp) hw (by omega) fun x hx => ?_
    subst hR2
    refine k x ([.lst la] ++ [.lst lb] ++ [.lst (la ++ lb)] ++ M ++ M2 ++ [.lst acc]) _ hx ?_
    have := h6.app [.lst acc]
    simpa using this
theorem leaf_ok (h : Hd C S R) (k : ∀ d M S', Pu 4 2 d → Hd C S' (R ++ M) → Q d S') : wR (f__law_leaf [.ref 2] S) Q := by
  unfold f__law_leaf B__law_leaf
  walk_at "wx"
  refine draw_ok h (by decide) (by decide) fun v S' v0 v1 h1 => ?_
  walk_at "ops"
  split
  · refine ⟨⟨by decide, by decide, by decide⟩, ⟨by decide, by decide, by decide⟩, ⟨by decide, by decide, by decide⟩, ?_⟩
    refine draw_ok h1 (by decide) (by decide) fun v S' v0 v1 h2 => ⟨sz_le (by decide), some_int h2 rfl (by simp) (by simp) (by simp) fun i M S2 _ h3 => ?_⟩
    exact k _ M _ (.int i) (by simpa using h3)
  · split
    · exact word_ok h1 fun x M S' hx h2 => k _ M _ (.str hx) h2
    · split
      · exact k _ [] _ .non (by simpa using h1)
      · refine ⟨⟨by decide, by decide, by decide⟩, sz_le (by decide), ?_⟩
        refine some_int h1 rfl (by simp) (by simp) (by simp) fun i M S2 _ h3 => ⟨sz_le (by decide), k _ M _ (.tup (by simp) (by simp only [List.mem_cons, List.mem_nil_iff, or_false]; rintro e (rfl | rfl); exact .str (gS_of (by decide +kernel)); exact .int _)) (by simpa using h3)⟩
end K01

set_option Elab.async false
set_option linter.all false
set_option maxRecDepth 100000
set_option maxHeartbeats 4000000
/-! k01, the plain side: terms that are drawn, towers, sized rows. -/
namespace K01
open PySem PySem.Spec L2 DL
local macro_rules | `(tactic| walk_at "wx") => `(tactic| simp -implicitDefEqProofs only [w_runD, w_seq, w_set, w_setT, w_par, w_aug, w_put, w_ret, w_drop, w_sif, w_next, w_never, w_brk, w_cnt, w_var, w_c, w_un, w_bin, w_nil, w_cons, w_tup, w_lst, w_dic0, w_dic1, w_call, w_cb, w_and, w_or, w_not, w_if, w_chain, w_tval, w_tand, w_tor, w_tnot, w_sl, w_onone, w_osome, w_bm, w_make, w_rng1, w_for, w_lc, w_tyes, w_meth0, w_nex, w_fldput,
  start_def, wipeD, List.map_cons, List.map_nil, List.length_cons, List.length_nil, List.replicate_succ, List.replicate_zero, List.cons_append, List.nil_append, List.set_cons_zero, List.set_cons_succ, getv_0, getv_s, putAll, Nat.reduceAdd, Nat.reduceSub, Nat.zero_add, isB_bl, isI_int, true_and, and_true, if_true, if_false, Bool.false_eq_true, Bool.not_true, Bool.not_false])
local macro_rules | `(tactic| walk_at "ops") => `(tactic| simp -implicitDefEqProofs only [wp_add, wp_sub, wp_neg, wp_mul, wp_mod, wp_fdiv, wp_pow, wp_eqII, wp_eqSS, wp_neBB, wp_lt, wp_le, wp_gt, wp_ge, wp_int1, wp_abs, wp_min, wp_iadd, hx0, hx1, hx2, hx3, hx4, hs1, hs2, hs3, hs4, hlen, isB_bl, isI_int])

variable {C : Cells} {S R : Store} {Q : D → Store → Prop} {η : DEnv}
theorem eq_str {L n : Nat} {d : D} (h : Pu L n d) (a : Str) (S : Store) (m : Nat) : ∃ b, eqD S m (.str a) d = some b := by
  cases m <;> (unfold eqD eqI; cases h <;> exact ⟨_, rfl⟩)
theorem any_strs {L n : Nat} {d : D} (h : Pu L n d) (S : Store) : ∀ (ws : List Str), ∃ b, anyD S d (ws.map D.str) = some b
  | [] => ⟨false, rfl⟩
  | w :: ws => by
    obtain ⟨b, e⟩ := eq_str h w S deep
    obtain ⟨c, e'⟩ := any_strs h S ws
    exact ⟨b || c, by simp only [List.map_cons, anyD, e, e']⟩
theorem in_strs {L n : Nat} {d : D} (h : Pu L n d) (a b c : Str) : ∃ x, (∀ Q, wP (pIn d (.tup [.str a, .str b, .str c]) S) Q = Q (.bl x) S) ∧ ∀ Q, wP (pNotIn d (.tup [.str a, .str b, .str c]) S) Q = Q (.bl !x) S := by
  obtain ⟨x, e⟩ := any_strs h S [a, b, c]
  have e2 : inD d (.tup [.str a, .str b, .str c]) S = some x := by
    cases h <;> exact e
  refine ⟨x, fun Q => ?_, fun Q => ?_⟩
  · unfold pIn; rw [e2]; rfl
  · unfold pNotIn; rw [e2]; rfl
theorem at_mid {R0 M : Store} {o : O} : (R0 ++ o :: M)[R0.length]? = some o := by simp
theorem set_mid {R0 M : Store} {o o' : O} : (R0 ++ o :: M).set R0.length o' = R0 ++ o' :: M := by simp
theorem term_ok : ∀ (n f : Nat) {deep : Int} {S R : Store} {Q : D → Store → Prop}, n ≤ f → 1 ≤ n → deep ≤ n → Hd C S R → (∀ d M S', Pu 4 (n + 2) d → Hd C S' (R ++ M) → Q d S') → wR (f__law_term f [.ref 2, .int deep] S) Q
  | 0, _, _, _, _, _, _, h1, _, _, _ => by omega
  | n + 1, 0, _, _, _, _, h, _, _, _, _ => by omega
  | n + 1, f + 1, deep, S, R, Q, hf, h1, hd, h, k => by
    unfold f__law_term B__law_term
    walk_at "wx"
    refine draw_ok h (by decide) (by decide) fun v S1 v0 v1 h1 => ?_
    walk_at "ops"
    have leaf : wR (f__law_leaf [.ref 2] S1) Q := leaf_ok h1 fun d M S' hd h2 => k d M S' (hd.mono (by omega) (by omega)) h2
    split
    · exact leaf
    · rename_i hdeep
      have hdeep : 2 ≤ deep := by simpa using hdeep
      have rec1 : ∀ {S R : Store} {Q : D → Store → Prop} {deep' : Int}, deep' ≤ n → Hd C S R → (∀ d M S', Pu 4 (n + 2) d → Hd C S' (R ++ M) → Q d S') → wR (f__law_term f [.ref 2, .int deep'] S) Q := fun hd h k => term_ok n f (by omega) (by omega) hd h k
      split
      · exact leaf
      · split
        · refine key_ok h1 fun i M S2 h2 => rec1 (by omega) h2 fun d M2 S3 pd h3 => ⟨sz_le (by simp), k _ (M ++ M2) _ (.tup (by simp) ?_) (by simpa using h3)⟩
          simp only [List.mem_cons, List.mem_nil_iff, or_false]
          rintro e (rfl | rfl | rfl)
          · exact .str (gS_of (by decide +kernel))
          · exact .int _
          · exact pd
        · split
          · refine key_ok h1 fun i M S2 h2 => rec1 (by omega) h2 fun d M2 S3 pd h3 => ⟨sz_le (by simp), k _ (M ++ M2) _ (.tup (by simp) ?_) (by simpa using h3)⟩
            simp only [List.mem_cons, List.mem_nil_iff, or_false]
            rintro e (rfl | rfl | rfl)
            · exact .str (gS_of (by decide +kernel))
            · exact .int _
            · exact pd
          · refine ⟨sz_le (by decide), some_int h1 rfl (by simp) (by simp) (by simp) fun i M S2 hi h2 => ⟨sz_le (by decide), ?_⟩⟩
            have hi2 : 0 ≤ i ∧ i ≤ 4 := by
              simp at hi
              omega
            refine ⟨i, rfl, by omega, by omega, ?_⟩
            have h3 := h2.app [.lst []]
            have e3 := h2.len
            rw [e3]
            generalize S2 ++ [O.lst []] = S3 at h3
            generalize hR2 : R ++ M = R2 at h2 h3 e3
            refine w_forF (src := []) (fun rem η S => ∃ l M v5, η = [some (.ref 2), some (.int deep), some (.int v), some (.int i), some (.ref (R2.length + 3)), v5] ∧ Hd C S (R2 ++ .lst l :: M) ∧ (∀ e ∈ l, Pu 4 (n + 2) e) ∧ l.length + rem.length = i.toNat ∧ ∀ x ∈ rem, ∃ z, x = .int z) (fun _ _ _ _ => trivial) ?_ ?_ ⟨[], [], none, rfl, by simpa using h3, by simp, by simp [rangeD], by simp [rangeD]⟩
            · rintro x rem η S ⟨l, M2, v5, rfl, h4, hl, hn, hx⟩
              obtain ⟨z, rfl⟩ := hx x List.mem_cons_self
              refine ⟨_, rfl, ?_⟩
              walk_at "wx"
              have ty : tyD "list" (.ref (R2.length + 3)) S = true := by
                unfold tyD
                simp only [h4.at, at_mid]
                rfl
              refine ⟨ty, ?_⟩
              walk_at "ops"
              have go : ∀ d', d' ≤ (n : Int) → wR (f__law_term f [.ref 2, .int d'] S) fun x S1 => wP (mLst gAppend (.ref (R2.length + 3)) [x] S1) fun a S' => ∃ l M v5, [some (D.ref 2), some (D.int deep), some (D.int v), some (D.int i), some (D.ref (R2.length + 3)), some (D.int z)] = [some (.ref 2), some (.int deep), some (.int v), some (.int i), some (.ref (R2.length + 3)), v5] ∧ Hd C S' (R2 ++ .lst l :: M) ∧ (∀ e ∈ l, Pu 4 (n + 2) e) ∧ l.length + rem.length = i.toNat ∧ ∀ x ∈ rem, ∃ z, x = .int z := fun d' hd' => by
                refine rec1 hd' h4 fun d M3 S4 pd h5 => ?_
                have h5' : Hd C S4 (R2 ++ .lst l :: (M2 ++ M3)) := by simpa using h5
                rw [wp_app (l := l) (by rw [h5'.at]; exact at_mid) (by simp only [List.length_cons] at hn; rw [sizeLine_eq]; omega)]
                refine ⟨l ++ [d], M2 ++ M3, _, rfl, ?_, fun e he => ?_, by simp only [List.length_append, List.length_cons, List.length_nil] at hn ⊢; omega, fun x hx' => hx x (List.mem_cons_of_mem _ hx')⟩
                · have := h5'.set R2.length (.lst (l ++ [d]))
                  rwa [set_mid] at this
                · rcases List.mem_append.mp he with q | q
                  · exact hl e q
                  · rw [List.mem_singleton.mp q]; exact pd
              split
              · exact go _ (by omega)
              · exact go _ (by omega)
            · rintro η S ⟨l, M2, v5, rfl, h4, hl, hn, _⟩
              walk_at "wx"
              have hget : S[R2.length + 3]? = some (.lst l) := by rw [h4.at]; exact at_mid
              have hll : l.length ≤ 4 := by simp only [List.length_nil] at hn; omega
              rw [wp_lenL hget]
              walk_at "ops"
              subst hR2
              split
              · rename_i h0
                have h0 : 0 < l.length := by have := of_decide_eq_true h0; omega
                rw [wp_ix (i := 0) (l := l) (d := l[0]) hget (DL.atI_nat (by decide) (List.getElem?_eq_getElem h0))]
                refine ⟨sz_le (by decide), ?_⟩
                obtain ⟨b, hb, _⟩ := in_strs (S := S) (hl l[0] (List.getElem_mem h0)) (Str.ofString "secret") (Str.ofString "signed") (Str.ofString "sealed")
                rw [hb]
                walk_at "ops"
                split
                · rw [ws_set (l := l) (k := 0) hget (by unfold ixN; rw [if_pos (by decide), if_pos (by omega)]; rfl)]
                  have h5 := h4.set (R ++ M).length (.lst (l.set 0 (.str (Str.ofString "head"))))
                  rw [set_mid] at h5
                  rw [wp_tupL (l := l.set 0 (.str (Str.ofString "head"))) (by rw [h5.at]; exact at_mid)]
                  refine k _ (M ++ .lst (l.set 0 (.str (Str.ofString "head"))) :: M2) _ (.tup (by rw [List.length_set]; exact hll) fun e he => ?_) (by simpa using h5)
                  rcases List.mem_or_eq_of_mem_set he with q | rfl
                  · exact hl e q
                  · exact .str (gS_of (by decide +kernel))
                · rw [wp_tupL hget]
                  exact k _ (M ++ .lst l :: M2) _ (.tup hll hl) (by simpa using h4)
              · rw [wp_tupL hget]
                exact k _ (M ++ .lst l :: M2) _ (.tup hll hl) (by simpa using h4)
end K01

set_option Elab.async false
set_option linter.all false
set_option maxRecDepth 100000
set_option maxHeartbeats 4000000
/-! k01, the plain side: towers, sized rows, great things. -/
namespace K01
open PySem PySem.Spec L2 DL
local macro_rules | `(tactic| walk_at "wx") => `(tactic| simp -implicitDefEqProofs only [w_runD, w_seq, w_set, w_setT, w_par, w_aug, w_put, w_ret, w_drop, w_sif, w_next, w_never, w_brk, w_cnt, w_var, w_c, w_un, w_bin, w_nil, w_cons, w_tup, w_lst, w_dic0, w_dic1, w_call, w_cb, w_and, w_or, w_not, w_if, w_chain, w_tval, w_tand, w_tor, w_tnot, w_sl, w_onone, w_osome, w_bm, w_make, w_rng1, w_for, w_lc, w_tyes, w_meth0, w_nex, w_fldput,
  start_def, wipeD, List.map_cons, List.map_nil, List.length_cons, List.length_nil, List.replicate_succ, List.replicate_zero, List.cons_append, List.nil_append, List.set_cons_zero, List.set_cons_succ, getv_0, getv_s, putAll, Nat.reduceAdd, Nat.reduceSub, Nat.zero_add, isB_bl, isI_int, true_and, and_true, if_true, if_false, Bool.false_eq_true, Bool.not_true, Bool.not_false])
local macro_rules | `(tactic| walk_at "ops") => `(tactic| simp -implicitDefEqProofs only [wp_add, wp_sub, wp_neg, wp_mul, wp_mod, wp_fdiv, wp_pow, wp_eqII, wp_eqSS, wp_neBB, wp_lt, wp_le, wp_gt, wp_ge, wp_int1, wp_abs, wp_min, wp_iadd, hx0, hx1, hx2, hx3, hx4, hs1, hs2, hs3, hs4, hlen, isB_bl, isI_int])

variable {C : Cells} {S R : Store} {Q : D → Store → Prop} {η : DEnv}
theorem pu3 {L n : Nat} {w : Str} {i : Int} {d : D} (hL : 3 ≤ L) (hw : gS w) (h : Pu L n d) : Pu L (n + 1) (.tup [.str w, .int i, d]) := by
  refine .tup (by simpa using hL) ?_
  simp only [List.mem_cons, List.mem_nil_iff, or_false]
  rintro e (rfl | rfl | rfl)
  · exact .str hw
  · exact .int _
  · exact h
theorem pu_tup {L n : Nat} {l : List D} (h1 : l.length ≤ L) (h : ∀ e ∈ l, Pu L n e) : Pu L (n + 1) (.tup l) := .tup h1 h
theorem tower_ok {b : D} {many : Int} {L n : Nat} (hL : 3 ≤ L) (hb : Pu L n b) (hm : 0 ≤ many) (hm2 : many < 1000) (h : Hd C S R) (k : ∀ d M S' m, Pu L m d → Hd C S' (R ++ M) → Q d S') : wR (f__law_tower [.ref 2, b, .int many] S) Q := by
  unfold f__law_tower B__law_tower
  walk_at "wx"
  refine ⟨many, rfl, by omega, by omega, ?_⟩
  refine w_forF (src := []) (fun rem η S => ∃ here M v4 v5 m, η = [some (.ref 2), some b, some (.int many), some here, v4, v5] ∧ Hd C S (R ++ M) ∧ Pu L m here) (fun _ _ _ _ => trivial) ?_ ?_ ⟨b, [], none, none, n, rfl, by simpa using h, hb⟩
  · rintro x rem η S ⟨here, M, v4, v5, m, rfl, h1, hp⟩
    refine ⟨_, rfl, ?_⟩
    walk_at "wx"
    refine draw_ok h1 (by decide) (by decide) fun v S' v0 v1 h2 => ?_
    walk_at "ops"
    split
    · refine key_ok h2 fun i M2 S2 h3 => ⟨sz_le (by simp), _, M ++ M2, _, _, m + 1, rfl, by simpa using h3, pu3 hL (gS_of (by decide +kernel)) hp⟩
    · split
      · refine key_ok h2 fun i M2 S2 h3 => ⟨sz_le (by simp), _, M ++ M2, _, _, m + 1, rfl, by simpa using h3, pu3 hL (gS_of (by decide +kernel)) hp⟩
      · refine ⟨sz_le (by simp), ?_⟩
        obtain ⟨q, _, hq⟩ := in_strs (S := S') hp (Str.ofString "secret") (Str.ofString "signed") (Str.ofString "sealed")
        rw [hq]
        walk_at "ops"
        split
        · refine ⟨sz_le (by simp), _, M, _, _, m + 1, rfl, h2, .tup (by simp; omega) ?_⟩
          simp only [List.mem_cons, List.mem_nil_iff, or_false]
          rintro e rfl
          exact hp
        · refine ⟨sz_le (by simp), _, M, _, _, m + 1, rfl, h2, .tup (by simp; omega) ?_⟩
          simp only [List.mem_cons, List.mem_nil_iff, or_false]
          rintro e (rfl | rfl)
          · exact .int _
          · exact hp
  · rintro η S ⟨here, M, v4, v5, m, rfl, h1, hp⟩
    walk_at "wx"
    exact k _ _ _ _ hp h1
def rank (f : Nat) (many : Int) : Prop := (many = 1 ∧ 1 ≤ f) ∨ (1 ≤ many ∧ many ≤ 61 ∧ 2 ≤ f) ∨ (1 ≤ many ∧ many ≤ 3661 ∧ 3 ≤ f) ∨ (1 ≤ many ∧ many ≤ 6000 ∧ 4 ≤ f)
theorem sized_ok : ∀ (f : Nat) {many : Int} {S R : Store} {Q : D → Store → Prop}, rank f many → Hd C S R → (∀ d M S', Pu 6000 f d → (2 ≤ many → ∃ l, d = .tup l ∧ l ≠ []) → Hd C S' (R ++ M) → Q d S') → wR (f__law_sized f [.int many] S) Q
  | 0, _, _, _, _, hr, _, _ => by unfold rank at hr; omega
  | f + 1, many, S, R, Q, hr, h, k => by
    unfold f__law_sized B__law_sized
    walk_at "wx"
    walk_at "ops"
    split
    · rename_i h1
      have h1 : many = 1 := by simpa using h1
      exact k _ [] _ (.int 5) (fun h => by omega) (by simpa using h)
    · rename_i h1
      have h1 : many ≠ 1 := by simpa using h1
      have hr1 : 2 ≤ many ∧ many ≤ 6000 := by unfold rank at hr; omega
      have go : ∀ most : Int, 1 ≤ most → (∀ left : Int, 1 ≤ left → left ≤ most → rank f left) →
          wO (sWhile (tVal (eBin pGt (eVar 2) (eC (.int 0)))) (sSeq (sDrop (eBM "list" (mLst gAppend) (eVar 1) (aCons (eCall (f__law_sized f) (aCons (eCB pMin2 (aCons (eVar 2) (aCons (eVar 3) aNil))) aNil)) aNil)))
            (sSet (.nm 2) (eBin pSub (eVar 2) (eCB pMin2 (aCons (eVar 2) (aCons (eVar 3) aNil)))))) [some (D.int many), some (D.ref S.length), some (D.int (many - 1)), some (D.int most)] (S ++ [O.lst []]))
            ⟨fun η S => wR (eVar 1 η S) fun x S1 => wP (pTupOf [x] S1) Q, Q, fun _ _ => False, fun _ _ => False⟩ := by
        intro most hm1 hrk
        rw [h.len]
        have h2 := h.app [.lst []]
        refine w_while (fun m η S => ∃ (left : Int) (l : List D) (M : Store), η = [some (.int many), some (.ref (R.length + 3)), some (.int left), some (.int most)] ∧ 0 ≤ left ∧ m = left.toNat ∧ (l.length : Int) + left ≤ many - 1 ∧ (l = [] → left = many - 1) ∧ (∀ e ∈ l, Pu 6000 f e) ∧ Hd C S (R ++ .lst l :: M))
          ?_ (m := (many - 1).toNat) ⟨many - 1, [], [], rfl, by omega, rfl, by simp, fun _ => rfl, by simp, h2⟩ (fuel_big (by omega))
        rintro m η S ⟨left, l, M, rfl, hl0, rfl, hl1, hl2, hl3, h3⟩
        have hget : S[R.length + 3]? = some (.lst l) := by rw [h3.at]; exact at_mid
        walk_at "wx"
        walk_at "ops"
        split
        · rename_i hpos
          have hpos : 0 < left := by simpa using hpos
          have ty : tyD "list" (.ref (R.length + 3)) S = true := by unfold tyD; simp only [hget]; rfl
          refine ⟨ty, ?_⟩
          have hmin : 1 ≤ (if most < left then most else left) ∧ (if most < left then most else left) ≤ most ∧ (if most < left then most else left) ≤ left := by split <;> omega
          refine sized_ok f (hrk _ hmin.1 hmin.2.1) h3 fun d M2 S2 hd _ h4 => ?_
          have h4' : Hd C S2 (R ++ .lst l :: (M ++ M2)) := by simpa using h4
          rw [wp_app (l := l) (by rw [h4'.at]; exact at_mid) (by rw [sizeLine_eq]; omega)]
          refine ⟨(left - (if most < left then most else left)).toNat, by omega, left - (if most < left then most else left), l ++ [d], M ++ M2, rfl, by omega, rfl, ?_, by simp, ?_, ?_⟩
          · simp only [List.length_append, List.length_cons, List.length_nil]; omega
          · intro e he
            rcases List.mem_append.mp he with q | q
            · exact hl3 e q
            · rw [List.mem_singleton.mp q]; exact hd
          · have := h4'.set R.length (.lst (l ++ [d]))
            rwa [set_mid] at this
        · rename_i hpos
          have hpos : left = 0 := by have : ¬ 0 < left := by simpa using hpos
                                     omega
          rw [wp_tupL hget]
          refine k _ (.lst l :: M) _ (.tup (by omega) hl3) (fun _ => ⟨l, rfl, fun e => ?_⟩) h3
          have := hl2 e
          omega
      refine ⟨sz_le (by decide), ?_⟩
      have go' := fun most a b => go most a b
      simp only [w_var, getv_0, getv_s] at go'
      split
      · rename_i h3
        have h3 := of_decide_eq_true h3
        exact go' _ (by decide) fun left a b => by unfold rank at hr ⊢; omega
      · split
        · rename_i h3 h4
          simp at h3 h4
          exact go' _ (by decide) fun left a b => by unfold rank at hr ⊢; omega
        · rename_i h3 h4
          simp at h3 h4
          exact go' _ (by decide) fun left a b => by unfold rank at hr ⊢; omega
theorem cut_mem {l : List D} {lo hi : Option Int} {e : D} (h : e ∈ cutD l lo hi) : e ∈ l := List.mem_of_mem_drop (List.mem_of_mem_take h)
theorem cut_len {l : List D} {lo hi : Option Int} : (cutD l lo hi).length ≤ l.length := by
  unfold cutD
  rw [List.length_take, List.length_drop]
  omega
theorem rep_mem {n : Nat} {d e : D} (h : e ∈ (List.replicate n [d]).flatten) : e = d := by
  obtain ⟨l, hl, he⟩ := List.mem_flatten.mp h
  rw [(List.mem_replicate.mp hl).2] at he
  exact List.mem_singleton.mp he
theorem rep_len {n : Nat} {d : D} : (List.replicate n [d]).flatten.length = n := by simp
theorem great_ok (h : Hd C S R) (k : ∀ d M S' n, Pu 10000 n d → Hd C S' (R ++ M) → Q d S') : wR (f__law_great [.ref 2] S) Q := by
  unfold f__law_great B__law_great
  walk_at "wx"
  refine draw_ok h (by decide) (by decide) fun v S1 v0 v1 h1 => ?_
  walk_at "ops"
  split
  · refine ⟨sz_le (by decide), sz_le (by decide), sz_le (by decide), ?_⟩
    refine some_new h1 rfl (by simp) (by simp) fun d hd S2 h2 => ?_
    have hp : Pu 4 2 d := by
      simp only [List.mem_cons, List.mem_nil_iff, or_false] at hd
      rcases hd with rfl | rfl | rfl | rfl | rfl
      · exact .int _
      · exact .str (gS_of (by decide +kernel))
      · exact .non
      · exact .tup (by simp) (by simp)
      · refine .tup (by simp) ?_
        simp only [List.mem_cons, List.mem_nil_iff, or_false]
        rintro e (rfl | rfl)
        · exact .str (gS_of (by decide +kernel))
        · exact .int _
    refine draw_ok h2 (by decide) (by decide) fun v S3 v0 v1 h3 => ?_
    walk_at "ops"
    exact tower_ok (L := 4) (by decide) hp (by omega) (by omega) h3 fun d M S' m hp h4 => k _ ([_] ++ M) _ m (hp.mono (by decide) (Nat.le_refl _)) (by simpa using h4)
  · split
    · refine draw_ok h1 (by decide) (by decide) fun v S3 v0 v1 h3 => ?_
      walk_at "ops"
      exact tower_ok (L := 4) (n := 1) (by decide) (.int 7) (by omega) (by omega) h3 fun d M S' m hp h4 => k _ M _ m (hp.mono (by decide) (Nat.le_refl _)) (by simpa using h4)
    · split
      · refine ⟨sz_le (by decide), some_int h1 rfl (by simp) (by simp) (by simp) fun i M S2 hi h2 => ?_⟩
        have hi2 : 2 ≤ i ∧ rank 40 i := by
          simp at hi
          unfold rank
          omega
        refine sized_ok 40 hi2.2 h2 fun d M2 S3 hd hne h3 => ?_
        obtain ⟨l, rfl, hl⟩ := hne hi2.1
        have hd2 : l.length ≤ 6000 ∧ ∀ e ∈ l, Pu 6000 39 e := by
          cases hd with
          | tup a b => exact ⟨a, b⟩
        have h0 : 0 < l.length := List.length_pos_iff.mpr hl
        have hcl : (cutD l (some 1) none).length ≤ l.length := cut_len
        simp only [wp_slT, wp_addT]
        rw [wp_ixT (i := 0) (d := l[0]) (DL.atI_nat (by decide) (List.getElem?_eq_getElem h0))]
        refine ⟨sz_le (by simp), sz_le (by simp), sz_le (by simp), sz_le (by simp), by simp only [List.length_cons, List.length_nil]; rw [sizeLine_eq]; omega, sz_le (by simp), sz_le (by simp), ?_⟩
        refine some_new h3 rfl (by simp) (by simp) fun d hd' S4 h4 => ?_
        have P1 : ∀ e ∈ l, Pu 10000 39 e := fun e he => (hd2.2 e he).mono (by decide) (Nat.le_refl _)
        have P2 : Pu 10000 40 (.tup l) := .tup (by omega) P1
        have sec : Pu 10000 2 (.tup [.str (Str.ofString "secret"), .int 1]) := .tup (by simp) (by
          simp only [List.mem_cons, List.mem_nil_iff, or_false]
          rintro e (rfl | rfl)
          · exact .str (gS_of (by decide +kernel))
          · exact .int _)
        have P3 : Pu 10000 42 d := by
          simp only [List.mem_cons, List.mem_nil_iff, or_false] at hd'
          rcases hd' with rfl | rfl | rfl
          · exact P2.mono (Nat.le_refl _) (by decide)
          · exact (pu3 (by decide) (gS_of (by decide +kernel)) P2).mono (Nat.le_refl _) (by decide)
          · refine .tup (by simp) ?_
            simp only [List.mem_cons, List.mem_nil_iff, or_false]
            rintro e (rfl | rfl)
            · refine .tup (by simp only [List.length_append, List.length_cons, List.length_nil]; omega) fun e he => ?_
              rcases List.mem_append.mp he with q | q
              · exact (P1 e (cut_mem q)).mono (Nat.le_refl _) (by decide)
              · rw [List.mem_singleton.mp q]
                exact (pu3 (by decide) (gS_of (by decide +kernel)) sec).mono (Nat.le_refl _) (by decide)
            · exact (P1 _ (List.getElem_mem h0)).mono (Nat.le_refl _) (by decide)
        exact k _ (M ++ M2 ++ [_]) _ 42 P3 (by simpa using h4)
      · refine term_ok 2 40 (by decide) (by decide) (by decide) h1 fun t M S2 hp h2 => ⟨sz_le (by simp), ?_⟩
        simp only [wp_mulT]
        refine ⟨⟨by simp, by decide, by decide, by simp⟩, ?_⟩
        simp only [wp_slT, wp_addT, wp_mulT]
        have l60 : (List.replicate (Int.toNat 60) [t]).flatten.length = 60 := rep_len
        have c1 : (cutD (List.replicate (Int.toNat 60) [t]).flatten (some 1) none).length ≤ 60 := by rw [← l60]; exact cut_len
        have c2 : (cutD (List.replicate (Int.toNat 60) [t]).flatten none (some 20)).length ≤ 60 := by rw [← l60]; exact cut_len
        have l61 : (List.replicate (Int.toNat 61) [D.int 1]).flatten.length = 61 := rep_len
        have l62 : (List.replicate (Int.toNat 60) [D.int 1]).flatten.length = 60 := rep_len
        have hp' : ∀ m, Pu 10000 (m + 4) t := fun m => hp.mono (by decide) (by omega)
        have one : ∀ m n : Nat, m ≤ 61 → Pu 10000 (n + 1) (.tup (List.replicate m [D.int 1]).flatten) := fun m n hm => .tup (by rw [rep_len]; omega) fun e he => by rw [rep_mem he]; exact .int _
        have wa : ∀ n, Pu 10000 n (.str (Str.ofString "a")) := fun n => .str (gS_of (by decide +kernel))
        refine ⟨sz_le (by simp), by simp only [List.length_cons, List.length_nil]; rw [sizeLine_eq]; omega, sz_le (by simp), by simp only [List.length_cons, List.length_nil]; rw [sizeLine_eq]; omega, sz_le (by simp), by simp only [List.length_cons, List.length_nil]; rw [sizeLine_eq]; omega, sz_le (by simp), ⟨by simp, by decide, by decide, by simp⟩, sz_le (by simp), by simp only [List.length_append, List.length_cons, List.length_nil]; rw [sizeLine_eq]; omega, sz_le (by simp), ⟨by simp, by decide, by decide, by simp⟩, sz_le (by simp), sz_le (by simp), ?_⟩
        refine some_new h2 rfl (by simp) (by simp) fun d hd' S4 h4 => ?_
        have P3 : Pu 10000 8 d := by
          simp only [List.mem_cons, List.mem_nil_iff, or_false] at hd'
          rcases hd' with rfl | rfl | rfl | rfl
          · refine .tup (by simp only [List.length_append, List.length_cons, List.length_nil]; omega) fun e he => ?_
            rcases List.mem_append.mp he with q | q
            · rw [List.mem_singleton.mp q]; exact wa _
            · rw [rep_mem (cut_mem q)]; exact hp' 3
          · refine .tup (by simp only [List.length_append, List.length_cons, List.length_nil]; omega) fun e he => ?_
            rcases List.mem_append.mp he with q | q
            · rw [List.mem_singleton.mp q]; exact wa _
            · rw [rep_mem q]; exact hp' 3
          · refine .tup (by simp only [List.length_append, List.length_cons, List.length_nil]; omega) fun e he => ?_
            rcases List.mem_append.mp he with q | q
            · rcases List.mem_append.mp q with q | q
              · rw [List.mem_singleton.mp q]; exact .int _
              · rw [rep_mem (cut_mem q)]; exact hp' 3
            · rw [List.mem_singleton.mp q]; exact one _ 6 (by decide)
          · refine .tup (by simp) ?_
            simp only [List.mem_cons, List.mem_nil_iff, or_false]
            rintro e (rfl | rfl)
            · exact wa _
            · exact one _ 6 (by decide)
        exact k _ (M ++ [_]) _ 8 P3 (by simpa using h4)
end K01

set_option Elab.async false
set_option linter.all false
set_option maxRecDepth 100000
set_option maxHeartbeats 4000000
/-! k01, the plain side: odd things. -/
namespace K01
open PySem PySem.Spec L2 DL
local macro_rules | `(tactic| walk_at "wx") => `(tactic| simp -implicitDefEqProofs only [w_runD, w_seq, w_set, w_setT, w_par, w_aug, w_put, w_ret, w_drop, w_sif, w_next, w_never, w_brk, w_cnt, w_var, w_c, w_un, w_bin, w_nil, w_cons, w_tup, w_lst, w_dic0, w_dic1, w_call, w_cb, w_and, w_or, w_not, w_if, w_chain, w_tval, w_tand, w_tor, w_tnot, w_sl, w_onone, w_osome, w_bm, w_make, w_rng1, w_for, w_lc, w_tyes, w_meth0, w_nex, w_fldput,
  start_def, wipeD, List.map_cons, List.map_nil, List.length_cons, List.length_nil, List.replicate_succ, List.replicate_zero, List.cons_append, List.nil_append, List.set_cons_zero, List.set_cons_succ, getv_0, getv_s, putAll, Nat.reduceAdd, Nat.reduceSub, Nat.zero_add, isB_bl, isI_int, true_and, and_true, if_true, if_false, Bool.false_eq_true, Bool.not_true, Bool.not_false])
local macro_rules | `(tactic| walk_at "ops") => `(tactic| simp -implicitDefEqProofs only [wp_add, wp_sub, wp_neg, wp_mul, wp_mod, wp_fdiv, wp_pow, wp_eqII, wp_eqSS, wp_neBB, wp_lt, wp_le, wp_gt, wp_ge, wp_int1, wp_abs, wp_min, wp_iadd, hx0, hx1, hx2, hx3, hx4, hs1, hs2, hs3, hs4, hlen, isB_bl, isI_int])

variable {C : Cells} {S R : Store} {Q : D → Store → Prop} {η : DEnv}
section
variable {nI : Nat} {t : String} {i : Int} {b : Bool} {x : Str} {l : List D}
theorem isi_non : wP (pIsi nI t .non S) Q = Q (.bl (sub0 "NoneType" t)) S := rfl
theorem isi_bl : wP (pIsi nI t (.bl b) S) Q = Q (.bl (sub0 "bool" t)) S := rfl
theorem isi_int : wP (pIsi nI t (.int i) S) Q = Q (.bl (sub0 "int" t)) S := rfl
theorem isi_str : wP (pIsi nI t (.str x) S) Q = Q (.bl (sub0 "str" t)) S := rfl
theorem isi_tup : wP (pIsi nI t (.tup l) S) Q = Q (.bl (sub0 "tuple" t)) S := rfl
theorem isi_lst {r : Nat} (h : S[r]? = some (.lst l)) : wP (pIsi nI t (.ref r) S) Q = Q (.bl (sub0 "list" t)) S := by unfold pIsi; simp only [h]; rfl
theorem isi_dic {r : Nat} {l : List (D × D)} (h : S[r]? = some (.dic l)) : wP (pIsi nI t (.ref r) S) Q = Q (.bl (sub0 "dict" t)) S := by unfold pIsi; simp only [h]; rfl
theorem isi_ins {r : Nat} {fs : List (Str × D)} (h : S[r]? = some (.ins 0 fs)) : wP (pIsi 1 t (.ref r) S) Q = Q (.bl false) S := by unfold pIsi; simp only [h]; rfl
theorem isn_bl : wP (pIsN (.bl b) .non S) Q = Q (.bl false) S := rfl
theorem isn_int : wP (pIsN (.int i) .non S) Q = Q (.bl false) S := rfl
theorem isn_tup : wP (pIsN (.tup l) .non S) Q = Q (.bl false) S := rfl
theorem isn_ref {r : Nat} : wP (pIsN (.ref r) .non S) Q = Q (.bl false) S := rfl
theorem s_nn (t : String) (h : ("NoneType" == t) = false) : sub0 "NoneType" t = false := by unfold sub0; rw [h]; rfl
end
theorem sub_tab : sub0 "NoneType" "int" = false ∧ sub0 "NoneType" "bool" = false ∧ sub0 "NoneType" "str" = false ∧ sub0 "NoneType" "tuple" = false ∧ sub0 "NoneType" "list" = false ∧ sub0 "bool" "int" = true ∧ sub0 "bool" "bool" = true ∧ sub0 "bool" "str" = false ∧ sub0 "bool" "tuple" = false ∧ sub0 "bool" "list" = false ∧
    sub0 "int" "int" = true ∧ sub0 "int" "bool" = false ∧ sub0 "int" "str" = false ∧ sub0 "int" "tuple" = false ∧ sub0 "int" "list" = false ∧ sub0 "str" "int" = false ∧ sub0 "str" "bool" = false ∧ sub0 "str" "str" = true ∧ sub0 "str" "tuple" = false ∧ sub0 "str" "list" = false ∧
    sub0 "tuple" "int" = false ∧ sub0 "tuple" "bool" = false ∧ sub0 "tuple" "str" = false ∧ sub0 "tuple" "tuple" = true ∧ sub0 "tuple" "list" = false ∧ sub0 "list" "int" = false ∧ sub0 "list" "bool" = false ∧ sub0 "list" "str" = false ∧ sub0 "list" "tuple" = false ∧ sub0 "list" "list" = true ∧
    sub0 "dict" "int" = false ∧ sub0 "dict" "bool" = false ∧ sub0 "dict" "str" = false ∧ sub0 "dict" "tuple" = false ∧ sub0 "dict" "list" = false := by decide
local macro_rules | `(tactic| walk_at "isi") => `(tactic| simp -implicitDefEqProofs only [isi_non, isi_bl, isi_int, isi_str, isi_tup, isn_bl, isn_int, isn_tup, isn_ref, wp_isN, wp_isNs, sub_tab, isB_bl, if_true, if_false, Bool.false_eq_true, Bool.not_true, Bool.not_false])
theorem within_ok {i a b : Int} (k : Q (.bl (decide (a ≤ i) && decide (i ≤ b))) S) : wR (f_is_within [.int i, .int a, .int b] S) Q := by
  unfold f_is_within B_is_within
  walk_at "wx"
  unfold f_is_integer B_is_integer
  walk_at "wx"
  walk_at "isi"
  walk_at "ops"
  by_cases h : a ≤ i
  · simpa [h] using k
  · simpa [h] using k
theorem init_ok (k : Q .non (S ++ [.ins 0 townFs])) : wR (f_Town_init [.ref S.length, .int 1, .tup [], .int 0, .int 0, .int 10] (S ++ [.ins 0 []])) Q := by
  unfold f_Town_init B_Town_init
  walk_at "wx"
  refine within_ok ?_
  walk_at "wx"
  unfold f_are_wires B_are_wires
  walk_at "wx"
  walk_at "isi"
  simp only [wp_lenT]
  walk_at "ops"
  walk_at "wx"
  have e1 : (decide ((1 : Int) ≤ 1) && decide ((1 : Int) ≤ 9)) = true := by decide
  have e2 : (decide ((0 : Int) ≤ 0) && decide ((0 : Int) ≤ 3)) = true := by decide
  have e3 : (decide ((10 : Int) ≤ 10) && decide ((10 : Int) ≤ 100 - 1)) = true := by decide
  rw [e1, if_neg (by decide), if_neg (by decide), w_iseq]
  walk_at "wx"
  have ei : ∀ {η : DEnv} {S : Store} {QI : Itm → Store → Prop}, wR (iSeq (eC (.tup [])) η S) QI = QI ⟨[], []⟩ S := rfl
  have ef : ∀ {η : DEnv} {S : Store} {b : DS} {P : OQ}, wO (forF [] (.nm 2) b [] η S) P = P.nx η S := by
    intro η S b P
    unfold forF
    rw [if_pos (show srcOk [] S from trivial)]
    rfl
  rw [ei, ef]
  walk_at "wx"
  refine within_ok ?_
  rw [e2]
  walk_at "wx"
  refine within_ok ?_
  rw [e2]
  walk_at "wx"
  unfold f_is_owner B_is_owner
  walk_at "wx"
  walk_at "ops"
  refine within_ok ?_
  rw [e3]
  walk_at "wx"
  have g : ∀ o, (S ++ [o])[S.length]? = some o := by simp
  have t : ∀ o o', (S ++ [o]).set S.length o' = S ++ [o'] := by simp
  refine ⟨_, _, _, rfl, g _, by simp, by decide, ?_⟩
  rw [t]
  refine ⟨_, _, _, rfl, g _, by simp, by decide, ?_⟩
  rw [t]
  refine ⟨_, _, _, rfl, g _, by simp, by decide, ?_⟩
  rw [t]
  refine ⟨_, _, _, rfl, g _, by simp, by decide, ?_⟩
  rw [t]
  refine ⟨_, _, _, rfl, g _, by simp, by decide, ?_⟩
  rw [t]
  exact k
/-! ### odd things: one display after the other -/
def GE (n : Nat) (e : DE) : Prop := ∀ {C : Cells} {S R : Store} {t : Nat} {s : Option D} {Q : D → Store → Prop}, Hd C S R → R[t]? = some (.ins 0 townFs) →
  (∀ d S' M, T (R ++ M) n d → Hd C S' (R ++ M) → Q d S') → wR (e [some (.ref 2), some (.ref (t + 3)), s] S) Q
def GA (n m : Nat) (fa : DA) : Prop := ∀ {C : Cells} {S R : Store} {t : Nat} {s : Option D} {Q : List D → Store → Prop}, Hd C S R → R[t]? = some (.ins 0 townFs) →
  (∀ ds S' M, (∀ d ∈ ds, T (R ++ M) n d) → ds.length = m → Hd C S' (R ++ M) → Q ds S') → wR (fa [some (.ref 2), some (.ref (t + 3)), s] S) Q
theorem get_app {R M : Store} {t : Nat} {o : O} (h : R[t]? = some o) : (R ++ M)[t]? = some o := by
  rw [List.getElem?_append_left (List.getElem?_eq_some_iff.mp h).1]; exact h
theorem ga_nil {n : Nat} : GA n 0 aNil := fun h ht k => by
  rw [w_nil]
  exact k [] _ [] (by simp) rfl (by simpa using h)
theorem ga_cons {n m : Nat} {e : DE} {fa : DA} (he : GE n e) (ha : GA n m fa) : GA n (m + 1) (aCons e fa) := fun {C S R t s Q} h ht k => by
  rw [w_cons]
  refine he h ht fun d S1 M h1 h2 => ha h2 (get_app ht) fun ds S2 M2 h3 h4 h5 => k _ _ (M ++ M2) (fun d' hd' => ?_) (by simp [h4]) (by simpa using h5)
  rcases List.mem_cons.mp hd' with rfl | q
  · have := h1.app M2; simpa using this
  · have := h3 d' q; simpa using this
theorem ge_p {n : Nat} {e : DE} {d : D} (h : ∀ {η : DEnv} {S : Store} {Q : D → Store → Prop}, Q d S → wR (e η S) Q) (hp : Pu 10000 n d) : GE n e := fun hh ht k => h (k d _ [] (hp.T (Nat.le_refl _)) (by simpa using hh))
theorem ge_mono {n m : Nat} {e : DE} (h : GE n e) (hn : n ≤ m) : GE m e := fun hh ht k => h hh ht fun d S' M hd h' => k d S' M (hd.mono hn) h'
theorem ge_town {n : Nat} : GE n (eVar 1) := fun {C S R t s Q} h ht k => by
  walk_at "wx"
  exact k _ _ [] (.ref (by simpa using ht) .ins) (by simpa using h)
theorem ge_d0 {n : Nat} : GE n eDic0 := fun {C S R t s Q} h ht k => by
  rw [w_dic0, h.len]
  exact k _ _ [_] (.ref (o := .dic []) (by simp) (.dic rfl)) (h.app _)
theorem ge_d1 {n : Nat} {i j : Int} : GE n (eDic1 (.inl i) (eC (.int j))) := fun {C S R t s Q} h ht k => by
  rw [w_dic1, w_c, h.len]
  exact k _ _ [_] (.ref (o := .dic [(.int i, .int j)]) (by simp [keyD]) (.dic rfl)) (h.app _)
theorem ge_l {n : Nat} {fa : DA} {ds : List D} (h : ∀ {η : DEnv} {S : Store} {Q : List D → Store → Prop}, Q ds S → wR (fa η S) Q) (hp : ∀ e ∈ ds, Pu 10000 12 e) (hl : ds.length ≤ 1000) : GE n (eLst fa) := fun {C S R t s Q} hh ht k => by
  rw [w_lst]
  refine h ⟨sz_le (by omega), ?_⟩
  rw [hh.len]
  exact k _ _ [_] (.ref (o := .lst ds) (by simp) (.lst (by omega) hp)) (hh.app _)
theorem ge_t {n m : Nat} {fa : DA} (ha : GA n m fa) (hm : m ≤ 1000) : GE (n + 1) (eTup fa) := fun {C S R t s Q} h ht k => by
  rw [w_tup]
  exact ha h ht fun ds S' M hd hl h' => ⟨sz_le (by omega), k _ _ M (.tup (by omega) hd) h'⟩
/-- the row that grows -/
def OS (C : Cells) (t m : Nat) (η : DEnv) (S R : Store) : Prop := Hd C S R ∧ R[t]? = some (.ins 0 townFs) ∧ ∃ s l, η = [some (.ref 2), some (.ref (t + 3)), some (.ref (s + 3))] ∧ R[s]? = some (.lst l) ∧ l ≠ [] ∧ l.length ≤ m ∧ ∀ e ∈ l, T R 6 e
theorem odd_step {t m n : Nat} {fa : DA} {P : OQ} (ha : GA 6 n fa) (hm : m + n ≤ 1000) (h : OS C t m η S R) (k : ∀ η S M, OS C t (m + n) η S (R ++ M) → P.nx η S) : wO (sSet (.nm 2) (eBin pAdd (eVar 2) (eLst fa)) η S) P := by
  obtain ⟨hh, ht, s, l, rfl, hs, hne, hl, hT⟩ := h
  rw [w_set, w_bin, w_var, getv_s, getv_s, getv_0, w_lst]
  refine ha hh ht fun ds S1 M hd hn h1 => ⟨sz_le (by omega), ?_⟩
  have h2 := h1.app [.lst ds]
  rw [h1.len, wp_addL (l := l) (m := ds) (by rw [h2.at]; exact get_app (get_app hs)) (by rw [h2.at]; simp), h2.len]
  refine ⟨sz_le (by omega), ?_⟩
  refine k _ _ (M ++ [.lst ds] ++ [.lst (l ++ ds)]) ⟨by simpa using h2.app [.lst (l ++ ds)], get_app ht, (R ++ M ++ [O.lst ds]).length, l ++ ds, rfl, by simp [← List.append_assoc], by simp [hne], by rw [List.length_append]; omega, fun e he => ?_⟩
  rcases List.mem_append.mp he with q | q
  · exact (hT e q).app _
  · have := (hd e q).app ([.lst ds] ++ [.lst (l ++ ds)])
    simpa using this
theorem odd_first {t m : Nat} {fa : DA} {P : OQ} (ha : GA 6 (m + 1) fa) (hm : m + 1 ≤ 1000) (hh : Hd C S R) (ht : R[t]? = some (.ins 0 townFs)) (k : ∀ η S M, OS C t (m + 1) η S (R ++ M) → P.nx η S) : wO (sSet (.nm 2) (eLst fa) [some (.ref 2), some (.ref (t + 3)), none] S) P := by
  rw [w_set, w_lst]
  refine ha hh ht fun ds S1 M hd hn h1 => ⟨sz_le (by omega), ?_⟩
  rw [h1.len]
  refine k _ _ (M ++ [.lst ds]) ⟨by simpa using h1.app [.lst ds], get_app ht, (R ++ M).length, ds, rfl, by simp [← List.append_assoc], fun e => (by rw [e] at hn; cases hn), by omega, fun e he => ?_⟩
  have := (hd e he).app [.lst ds]
  simpa using this
theorem p0 {n : Nat} {d : D} (h : Pu 10000 0 d) : GE n (eC d) := ge_p (fun k => by exact k) (h.mono (Nat.le_refl _) (Nat.zero_le _))
theorem gi {n : Nat} {i : Int} : GE n (eC (.int i)) := p0 (.int i)
theorem gb {n : Nat} {i : Bool} : GE n (eC (.bl i)) := p0 (.bl i)
theorem gn {n : Nat} : GE n (eC .non) := p0 .non
theorem gs {n : Nat} {x : Str} (h : gSb x = true) : GE n (eC (.str x)) := p0 (.str (gS_of h))
theorem gneg {n : Nat} {i : Int} : GE n (eUn pNeg (eC (.int i))) := ge_p (d := .int (-i)) (fun k => by exact k) (.int _)
theorem gpow {n : Nat} {i j : Int} (h : CPow i j) : GE n (eBin pPow (eC (.int i)) (eC (.int j))) := ge_p (d := .int (i ^ j.toNat)) (fun k => by
  rw [w_bin, w_c, w_c, wp_pow]
  exact ⟨h, k⟩) (.int _)
theorem gmulS {n : Nat} {x : Str} {j : Int} (h : 2 ≤ j ∧ j ≤ 1000 ∧ 1 ≤ x.length ∧ x.length ≤ 1000) (hg : gSb (repS x j) = true) : GE n (eBin pMul (eC (.str x)) (eC (.int j))) := ge_p (d := .str (repS x j)) (fun k => by
  rw [w_bin, w_c, w_c, wp_mulS]
  exact ⟨h, k⟩) (.str (gS_of hg))
theorem gmulT {n : Nat} {i j : Int} (h : 2 ≤ j ∧ j ≤ 1000) : GE (n + 1) (eBin pMul (eTup (aCons (eC (.int i)) aNil)) (eC (.int j))) := ge_p (d := .tup (List.replicate j.toNat [.int i]).flatten) (fun k => by
  walk_at "wx"
  rw [wp_mulT]
  exact ⟨sz_le (by simp), ⟨by simp, h.1, h.2, by simp⟩, k⟩) (.tup (by rw [rep_len]; omega) fun e he => by rw [rep_mem he]; exact .int _)
theorem gnl {n : Nat} : GE n (eC (.str (Str.ofString "a\nb"))) := p0 (.str ⟨by decide +kernel, .inr (by decide +kernel)⟩)
theorem gl0 {n : Nat} : GE n (eLst aNil) := ge_l (ds := []) (fun k => by exact k) (by simp) (by simp)
theorem gl1 {n : Nat} {d : D} (h : Pu 10000 12 d) : GE n (eLst (aCons (eC d) aNil)) := ge_l (ds := [d]) (fun k => by exact k) (by simpa using h) (by simp)
theorem gl2 {n : Nat} {d d' : D} (h : Pu 10000 12 d) (h' : Pu 10000 12 d') : GE n (eLst (aCons (eC d) (aCons (eC d') aNil))) := ge_l (ds := [d, d']) (fun k => by exact k) (by simpa using ⟨h, h'⟩) (by simp)
local macro_rules | `(tactic| walk_at "ga") => `(tactic| repeat' (first | exact ga_nil | apply ga_cons | exact gi | exact gb | exact gn | exact gneg | exact gs (by decide +kernel) | exact gnl | exact gpow ⟨by decide, by decide, by decide⟩ | exact gmulS (by decide +kernel) (by decide +kernel) | exact gmulT (by decide) | exact gl0 | exact gl1 (.int _) | exact gl2 (.str (gS_of (by decide +kernel))) (.int _) | exact ge_d0 | exact ge_d1 | exact ge_town | apply ge_t | decide))
theorem odd_ok (h : Hd C S R) (k : ∀ d M S', T (R ++ M) 6 d → Hd C S' (R ++ M) → Q d S') : wR (f__law_odd [.ref 2] S) Q := by
  unfold f__law_odd B__law_odd
  rw [w_runD]
  refine ⟨rfl, ?_⟩
  rw [w_seq, w_set, w_make]
  simp -implicitDefEqProofs only [w_cons, w_nil, w_c, w_tup]
  refine ⟨sz_le (by simp), init_ok ⟨rfl, ?_⟩⟩
  rw [w_seq, h.len]
  have h1 := h.app [.ins 0 townFs]
  have ht : (R ++ [O.ins 0 townFs])[R.length]? = some (.ins 0 townFs) := by simp
  refine odd_first (t := R.length) (m := 13) (by walk_at "ga") (by decide) h1 ht fun η S1 M1 s1 => ?_
  dsimp only
  rw [w_seq]
  refine odd_step (m := 14) (n := 3) (by walk_at "ga") (by decide) s1 fun η S2 M2 s2 => ?_
  dsimp only
  rw [w_seq]
  refine odd_step (m := 17) (n := 3) (by walk_at "ga") (by decide) s2 fun η S3 M3 s3 => ?_
  dsimp only
  rw [w_seq]
  refine odd_step (m := 20) (n := 5) (by walk_at "ga") (by decide) s3 fun η S4 M4 s4 => ?_
  dsimp only
  rw [w_seq]
  refine odd_step (m := 25) (n := 5) (by walk_at "ga") (by decide) s4 fun η S5 M5 s5 => ?_
  dsimp only
  rw [w_seq]
  refine odd_step (m := 30) (n := 7) (by walk_at "ga") (by decide) s5 fun η S6 M6 s6 => ?_
  dsimp only
  rw [w_seq]
  refine odd_step (m := 37) (n := 7) (by walk_at "ga") (by decide) s6 fun η S7 M7 s7 => ?_
  obtain ⟨hh, _, s, l, rfl, hs, hne, hl, hT⟩ := s7
  walk_at "wx"
  refine some_ok hh hs hne (by omega) fun d hd S' h' => ?_
  have e : R ++ [O.ins 0 townFs] ++ M1 ++ M2 ++ M3 ++ M4 ++ M5 ++ M6 ++ M7 = R ++ ([O.ins 0 townFs] ++ M1 ++ M2 ++ M3 ++ M4 ++ M5 ++ M6 ++ M7) := by simp
  rw [e] at h' hT
  exact k d _ _ (hT d hd) h'
end K01

set_option Elab.async false
set_option linter.all false
set_option maxRecDepth 100000
set_option maxHeartbeats 4000000
/-! k01, the plain side: bent terms, copies, their comparison. -/
namespace K01
open PySem PySem.Spec L2 DL
local macro_rules | `(tactic| walk_at "wx") => `(tactic| simp -implicitDefEqProofs only [w_runD, w_seq, w_set, w_setT, w_par, w_aug, w_put, w_ret, w_drop, w_sif, w_next, w_never, w_brk, w_cnt, w_var, w_c, w_un, w_bin, w_nil, w_cons, w_tup, w_lst, w_dic0, w_dic1, w_call, w_cb, w_and, w_or, w_not, w_if, w_chain, w_tval, w_tand, w_tor, w_tnot, w_sl, w_onone, w_osome, w_bm, w_make, w_rng1, w_for, w_lc, w_tyes, w_meth0, w_nex, w_fldput,
  start_def, wipeD, List.map_cons, List.map_nil, List.length_cons, List.length_nil, List.replicate_succ, List.replicate_zero, List.cons_append, List.nil_append, List.set_cons_zero, List.set_cons_succ, getv_0, getv_s, putAll, Nat.reduceAdd, Nat.reduceSub, Nat.zero_add, isB_bl, isI_int, true_and, and_true, if_true, if_false, Bool.false_eq_true, Bool.not_true, Bool.not_false])
local macro_rules | `(tactic| walk_at "ops") => `(tactic| simp -implicitDefEqProofs only [wp_add, wp_sub, wp_neg, wp_mul, wp_mod, wp_fdiv, wp_pow, wp_eqII, wp_eqSS, wp_neBB, wp_lt, wp_le, wp_gt, wp_ge, wp_int1, wp_abs, wp_min, wp_iadd, hx0, hx1, hx2, hx3, hx4, hs1, hs2, hs3, hs4, hlen, isB_bl, isI_int])

local macro_rules | `(tactic| walk_at "isi") => `(tactic| simp -implicitDefEqProofs only [isi_non, isi_bl, isi_int, isi_str, isi_tup, isn_bl, isn_int, isn_tup, isn_ref, wp_isN, wp_isNs, sub_tab, isB_bl, if_true, if_false, Bool.false_eq_true, Bool.not_true, Bool.not_false])
variable {C : Cells} {S R : Store} {Q : D → Store → Prop} {η : DEnv}
theorem bent_ok : ∀ (n f : Nat) {d : D} {S R : Store} {Q : D → Store → Prop}, n < f → n ≤ 11 → Pu 4 n d → Hd C S R → (∀ d' M S', T (R ++ M) (n + 6) d' → Hd C S' (R ++ M) → Q d' S') → wR (f__law_bent f [.ref 2, d] S) Q
  | n, 0, _, _, _, _, h, _, _, _, _ => by omega
  | n, f + 1, d, S, R, Q, hf, hn, hd, h, k => by
    unfold f__law_bent B__law_bent
    have odd : ∀ {S' M}, Hd C S' (R ++ M) → wR (f__law_odd [.ref 2] S') Q := fun {S' M} h' => odd_ok h' fun d M2 S2 hd h2 => k d (M ++ M2) S2 (by have := hd.mono (show 6 ≤ n + 6 by omega); simpa using this) (by simpa using h2)
    have odd0 : wR (f__law_odd [.ref 2] S) Q := odd (M := []) (by simpa using h)
    cases hd with
    | non => walk_at "wx"; walk_at "isi"; exact odd0
    | bl b => walk_at "wx"; walk_at "isi"; exact odd0
    | int i => walk_at "wx"; walk_at "isi"; exact odd0
    | str x => walk_at "wx"; walk_at "isi"; exact odd0
    | tup hl ht =>
      rename_i n l
      walk_at "wx"
      walk_at "isi"
      simp only [wp_lenT]
      walk_at "ops"
      by_cases h0 : l.length = 0
      · rw [if_pos (by rw [h0]; rfl)]
        exact odd0
      · rw [if_neg (by simpa using h0)]
        refine draw_ok h (by decide) (by decide) fun v S1 v0 v1 h1 => ?_
        walk_at "ops"
        split
        · exact odd (M := []) (by simpa using h1)
        · refine draw_ok h1 (by omega) (by omega) fun at_ S2 a0 a1 h2 => draw_ok h2 (by decide) (by decide) fun how S3 b0 b1 h3 => ?_
          have hat : at_.toNat < l.length := by omega
          walk_at "ops"
          have hcut : ∀ lo hi, (cutD l lo hi).length ≤ l.length := fun _ _ => cut_len
          have hT : ∀ {R' : Store} {m : Nat}, n ≤ m → ∀ e ∈ l, T R' m e := fun hm e he => ((ht e he).T (by decide)).mono hm
          split
          · rw [wp_listT]
            simp only [wp_slT, wp_addT, wp_rev]
            refine ⟨by have := hcut none (some 1); rw [sizeLine_eq]; omega, sz_le (by simp), by simp only [List.length_cons, List.length_nil]; rw [sizeLine_eq]; omega, sz_le (by simp), ?_⟩
            have h4 := h3.app [.lst l]
            refine some_new h4 rfl (by simp) (by simp) fun d hd S4 h5 => k d ([.lst l] ++ [_]) _ ?_ (by simpa using h5)
            simp only [List.mem_cons, List.mem_nil_iff, or_false] at hd
            rcases hd with rfl | rfl | rfl | rfl | rfl
            · rw [h3.len]
              exact .ref (o := .lst l) (by simp) (.lst (by omega) fun e he => (ht e he).mono (by decide) (by omega))
            · exact .tup (by have := hcut (some 1) none; omega) fun e he => hT (by omega) e (cut_mem he)
            · refine .tup (by have := hcut none (some 1); rw [List.length_append]; omega) fun e he => ?_
              rcases List.mem_append.mp he with q | q
              · exact hT (by omega) e q
              · exact hT (by omega) e (cut_mem q)
            · exact .tup (by rw [List.length_reverse]; omega) fun e he => hT (by omega) e (List.mem_reverse.mp he)
            · refine .tup (by simp only [List.length_append, List.length_cons, List.length_nil]; omega) fun e he => ?_
              rcases List.mem_append.mp he with q | q
              · exact hT (by omega) e q
              · rw [List.mem_singleton.mp q]; exact .non
          · rw [wp_slT, wp_ixT (i := at_) (d := l[at_.toNat]) (DL.atI_nat a0 (List.getElem?_eq_getElem hat))]
            refine bent_ok n f (by omega) (by omega) (ht _ (List.getElem_mem hat)) h3 fun d' M S4 hd' h4 => ⟨sz_le (by simp), ?_⟩
            simp only [wp_slT, wp_addT]
            have c1 := hcut none (some at_)
            have c2 := hcut (some (at_ + 1)) none
            refine ⟨by simp only [List.length_cons, List.length_nil]; rw [sizeLine_eq]; omega, by simp only [List.length_append, List.length_cons, List.length_nil]; rw [sizeLine_eq]; omega, k _ M _ (.tup (by simp only [List.length_append, List.length_cons, List.length_nil]; omega) fun e he => ?_) h4⟩
            rcases List.mem_append.mp he with q | q
            · rcases List.mem_append.mp q with q | q
              · exact hT (by omega) e (cut_mem q)
              · rw [List.mem_singleton.mp q]; exact hd'
            · exact hT (by omega) e (cut_mem q)
/-! ### copies -/
/-- the second is a copy of the first -/
inductive Cp (R : Store) : D → D → Prop
  | same (d : D) : (∀ l, d ≠ .tup l) → Cp R d d
  | lst {r q : Nat} {l : List D} : R[r]? = some (.lst l) → R[q]? = some (.lst l) → (∀ e ∈ l, Pu 10000 12 e) → Cp R (.ref (r + 3)) (.ref (q + 3))
  | tup {l m : List D} : l.length = m.length → (∀ (i : Nat) (x y : D), l[i]? = some x → m[i]? = some y → Cp R x y) → Cp R (.tup l) (.tup m)
theorem Cp.app {d d' : D} (h : Cp R d d') (M : Store) : Cp (R ++ M) d d' := by
  induction h with
  | same d hd => exact .same d hd
  | lst a b c => exact .lst (get_app a) (get_app b) c
  | tup a b ih => exact .tup a ih
theorem pu_cp {L n : Nat} {d : D} (h : Pu L n d) : Cp R d d := by
  induction h with
  | non => exact .same _ (fun _ h => nomatch h)
  | bl b => exact .same _ (fun _ h => nomatch h)
  | int b => exact .same _ (fun _ h => nomatch h)
  | str h => exact .same _ (fun _ h => nomatch h)
  | tup a b ih => exact .tup rfl fun i x y hx hy => by rw [hx] at hy; cases hy; exact ih x (List.mem_of_getElem? hx)
/-- items copied -/
theorem iter_tup {l : List D} {QI : Itm → Store → Prop} : wR (iSeq (eC (.tup l)) η S) QI = QI ⟨l, []⟩ S := rfl
theorem iter_lst {l : List D} {r : Nat} {QI : Itm → Store → Prop} (h : S[r]? = some (.lst l)) : wR (iSeq (eC (.ref r)) η S) QI = QI ⟨l, [(r, .lst l)]⟩ S := by
  unfold iSeq
  show wR (match S[r]? with
    | some (.lst l) => Res.ok ⟨l, [(r, O.lst l)]⟩ S
    | _ => .bad) QI = _
  rw [h]
  rfl
theorem copy_pu : ∀ (n f : Nat) {d : D} {S R : Store} {Q : D → Store → Prop}, n < f → Pu 10000 n d → Hd C S R → (∀ M S', Hd C S' (R ++ M) → Q d S') → wR (f__law_copied f [d] S) Q
  | n, 0, _, _, _, _, h, _, _, _ => by omega
  | n, f + 1, d, S, R, Q, hf, hd, h, k => by
    have k0 : Q d S := k [] S (by simpa using h)
    unfold f__law_copied B__law_copied
    cases hd with
    | non => walk_at "wx"; walk_at "isi"; exact k0
    | bl b => walk_at "wx"; walk_at "isi"; exact k0
    | int i => walk_at "wx"; walk_at "isi"; exact k0
    | str x => walk_at "wx"; walk_at "isi"; exact k0
    | tup hl ht =>
      rename_i n l
      walk_at "wx"
      walk_at "isi"
      rw [w_iseq]
      walk_at "wx"
      rw [iter_tup]
      obtain ⟨acc, S3, e, M, h3, ha⟩ := w_lcF (src := []) (g := .nm 1) (t := tYes') (e := eCall (f__law_copied f) (aCons (eVar 1) aNil)) (η := [some (D.tup l), none])
        (fun rem acc S => ∃ M, Hd C S (R ++ M) ∧ acc ++ rem = l) (K := fun acc S => ∃ M, Hd C S (R ++ M) ∧ acc = l) (fun _ _ _ _ => trivial)
        (fun x rem acc S ⟨M, hM, ha⟩ => by
          refine ⟨_, rfl, ?_⟩
          walk_at "wx"
          have hx : x ∈ l := by rw [← ha]; simp
          refine copy_pu n f (by omega) (ht x hx) hM fun M2 S2 h2 => ⟨?_, M ++ M2, by simpa using h2, by simpa using ha⟩
          have : acc.length ≤ l.length := by rw [← ha]; simp
          rw [sizeLine_eq]; omega)
        (fun acc S ⟨M, hM, ha⟩ => ⟨M, hM, by simpa using ha⟩) (xs := l) (S := S) (acc := []) ⟨[], by simpa using h, rfl⟩
      subst ha
      refine ⟨acc, S3, e, ?_⟩
      rw [wp_tupL (l := acc) (by simp)]
      exact k (M ++ [.lst acc]) _ (by simpa using h3.app [.lst acc])
theorem copy_ok : ∀ (n f : Nat) {d : D} {S R : Store} {Q : D → Store → Prop}, n + 14 < f → T R n d → Hd C S R → (∀ d' M S', Cp (R ++ M) d d' → Hd C S' (R ++ M) → Q d' S') → wR (f__law_copied f [d] S) Q
  | n, 0, _, _, _, _, h, _, _, _ => by omega
  | n, f + 1, d, S, R, Q, hf, hd, h, k => by
    have k0 : (∀ l, d ≠ .tup l) → Q d S := fun hne => k d [] S (.same d hne) (by simpa using h)
    unfold f__law_copied B__law_copied
    cases hd with
    | non => walk_at "wx"; walk_at "isi"; exact k0 (fun _ h => nomatch h)
    | bl b => walk_at "wx"; walk_at "isi"; exact k0 (fun _ h => nomatch h)
    | int i => walk_at "wx"; walk_at "isi"; exact k0 (fun _ h => nomatch h)
    | str x => walk_at "wx"; walk_at "isi"; exact k0 (fun _ h => nomatch h)
    | ref hr ho =>
      rename_i r o
      have hS : S[r + 3]? = some o := by rw [h.at]; exact hr
      cases ho with
      | dic hf2 =>
        walk_at "wx"
        simp only [isi_dic hS]
        walk_at "isi"
        try simp only [isi_dic hS]
        try walk_at "isi"
        try walk_at "wx"
        exact k0 (fun _ h => nomatch h)
      | ins =>
        walk_at "wx"
        simp only [isi_ins hS]
        walk_at "isi"
        try simp only [isi_ins hS]
        try walk_at "isi"
        try walk_at "wx"
        exact k0 (fun _ h => nomatch h)
      | lst hl hp =>
        rename_i l
        walk_at "wx"
        simp only [isi_lst hS]
        walk_at "isi"
        rw [w_iseq]
        walk_at "wx"
        rw [iter_lst hS]
        obtain ⟨acc, S3, e, M, h3, ha⟩ := w_lcF (src := [(r + 3, .lst l)]) (g := .nm 1) (t := tYes') (e := eCall (f__law_copied f) (aCons (eVar 1) aNil)) (η := [some (D.ref (r + 3)), none])
          (fun rem acc S => ∃ M, Hd C S (R ++ M) ∧ acc ++ rem = l) (K := fun acc S => ∃ M, Hd C S (R ++ M) ∧ acc = l) (fun _ _ S ⟨M, hM, _⟩ => ⟨by rw [hM.at]; exact get_app hr, trivial⟩)
          (fun x rem acc S ⟨M, hM, ha⟩ => by
            refine ⟨_, rfl, ?_⟩
            walk_at "wx"
            have hx : x ∈ l := by rw [← ha]; simp
            refine copy_pu 12 f (by omega) (hp x hx) hM fun M2 S2 h2 => ⟨?_, M ++ M2, by simpa using h2, by simpa using ha⟩
            have : acc.length ≤ l.length := by rw [← ha]; simp
            rw [sizeLine_eq]; omega)
          (fun acc S ⟨M, hM, ha⟩ => ⟨M, hM, by simpa using ha⟩) (xs := l) (S := S) (acc := []) ⟨[], by simpa using h, rfl⟩
        subst ha
        refine ⟨acc, S3, e, ?_⟩
        rw [h3.len]
        refine k _ (M ++ [.lst acc]) _ (.lst (l := acc) (get_app hr) ?_ hp) (by simpa using h3.app [.lst acc])
        simp [← List.append_assoc]
    | tup hl ht =>
      rename_i n l
      walk_at "wx"
      walk_at "isi"
      rw [w_iseq]
      walk_at "wx"
      rw [iter_tup]
      obtain ⟨acc, S3, e, M, h3, hlen, ha⟩ := w_lcF (src := []) (g := .nm 1) (t := tYes') (e := eCall (f__law_copied f) (aCons (eVar 1) aNil)) (η := [some (D.tup l), none])
        (fun rem acc S => ∃ M, Hd C S (R ++ M) ∧ acc.length + rem.length = l.length ∧ rem = l.drop acc.length ∧ ∀ (i : Nat) (x y : D), l[i]? = some x → acc[i]? = some y → Cp (R ++ M) x y) (K := fun acc S => ∃ M, Hd C S (R ++ M) ∧ l.length = acc.length ∧ ∀ (i : Nat) (x y : D), l[i]? = some x → acc[i]? = some y → Cp (R ++ M) x y) (fun _ _ _ _ => trivial)
        (fun x rem acc S ⟨M, hM, hlen, hrem, ha⟩ => by
          refine ⟨_, rfl, ?_⟩
          walk_at "wx"
          have hlt : acc.length < l.length := by simp only [List.length_cons] at hlen; omega
          have hx : l[acc.length]? = some x := by
            have := congrArg (fun z : List D => z[0]?) hrem
            simpa using this.symm
          refine copy_ok n f (by omega) ((ht x (List.mem_of_getElem? hx)).app M) hM fun d' M2 S2 hc h2 => ⟨by rw [sizeLine_eq]; omega, M ++ M2, by simpa using h2, by simp only [List.length_append, List.length_cons, List.length_nil] at hlen ⊢; omega, ?_, fun i a b hi hj => ?_⟩
          · have := congrArg List.tail hrem
            simpa using this
          · by_cases hb : i < acc.length
            · rw [List.getElem?_append_left hb] at hj
              have := (ha i a b hi hj).app M2
              simpa using this
            · have hi2 : i = acc.length := by
                have := (List.getElem?_eq_some_iff.mp hj).1
                simp only [List.length_append, List.length_cons, List.length_nil] at this
                omega
              subst hi2
              rw [hx] at hi
              cases hi
              have : b = d' := by simpa using hj.symm
              subst this
              simpa using hc)
        (fun acc S ⟨M, hM, hlen, _, ha⟩ => ⟨M, hM, by simpa using hlen.symm, ha⟩) (xs := l) (S := S) (acc := []) ⟨[], by simpa using h, by simp, rfl, by simp⟩
      refine ⟨acc, S3, e, ?_⟩
      rw [wp_tupL (l := acc) (by simp)]
      refine k _ (M ++ [.lst acc]) _ (.tup hlen fun i x y hx hy => ?_) (by simpa using h3.app [.lst acc])
      have := (ha i x y hx hy).app [.lst acc]
      simpa using this
end K01

set_option Elab.async false
set_option linter.all false
set_option maxRecDepth 100000
set_option maxHeartbeats 4000000
/-! k01, the plain side: a thing is its copy. -/
namespace K01
open PySem PySem.Spec L2 DL
local macro_rules | `(tactic| walk_at "wx") => `(tactic| simp -implicitDefEqProofs only [w_runD, w_seq, w_set, w_setT, w_par, w_aug, w_put, w_ret, w_drop, w_sif, w_next, w_never, w_brk, w_cnt, w_var, w_c, w_un, w_bin, w_nil, w_cons, w_tup, w_lst, w_dic0, w_dic1, w_call, w_cb, w_and, w_or, w_not, w_if, w_chain, w_tval, w_tand, w_tor, w_tnot, w_sl, w_onone, w_osome, w_bm, w_make, w_rng1, w_for, w_lc, w_tyes, w_meth0, w_nex, w_fldput,
  start_def, wipeD, List.map_cons, List.map_nil, List.length_cons, List.length_nil, List.replicate_succ, List.replicate_zero, List.cons_append, List.nil_append, List.set_cons_zero, List.set_cons_succ, getv_0, getv_s, putAll, Nat.reduceAdd, Nat.reduceSub, Nat.zero_add, isB_bl, isI_int, true_and, and_true, if_true, if_false, Bool.false_eq_true, Bool.not_true, Bool.not_false])
local macro_rules | `(tactic| walk_at "ops") => `(tactic| simp -implicitDefEqProofs only [wp_add, wp_sub, wp_neg, wp_mul, wp_mod, wp_fdiv, wp_pow, wp_eqII, wp_eqSS, wp_neBB, wp_lt, wp_le, wp_gt, wp_ge, wp_int1, wp_abs, wp_min, wp_iadd, hx0, hx1, hx2, hx3, hx4, hs1, hs2, hs3, hs4, hlen, isB_bl, isI_int])

local macro_rules | `(tactic| walk_at "isi") => `(tactic| simp -implicitDefEqProofs only [isi_non, isi_bl, isi_int, isi_str, isi_tup, isn_bl, isn_int, isn_tup, isn_ref, wp_isN, wp_isNs, sub_tab, isB_bl, if_true, if_false, Bool.false_eq_true, Bool.not_true, Bool.not_false])
variable {C : Cells} {S R : Store} {Q : D → Store → Prop} {η : DEnv}
theorem eqL_true {f : D → D → Option Bool} : ∀ {l m : List D}, l.length = m.length → (∀ (i : Nat) (x y : D), l[i]? = some x → m[i]? = some y → f x y = some true) → eqL f l m = some true
  | [], [], _, _ => rfl
  | x :: l, y :: m, h, k => by
    unfold eqL
    rw [k 0 x y rfl rfl, eqL_true (l := l) (m := m) (by simpa using h) fun i a b ha hb => k (i + 1) a b (by simpa using ha) (by simpa using hb)]
    rfl
  | [], _ :: _, h, _ => by simp at h
  | _ :: _, [], h, _ => by simp at h
theorem eq_same {n : Nat} {d : D} (h : T R n d) : ∀ m, n ≤ m → eqD S m d d = some true := by
  induction h with
  | non => intro m _; cases m <;> rfl
  | bl b => intro m _; cases m <;> simp [eqD, eqI, eqT]
  | int b => intro m _; cases m <;> simp [eqD, eqI, eqT]
  | str b => intro m _; cases m <;> simp [eqD, eqI, eqT]
  | ref a b => intro m _; cases m <;> simp [eqD, eqI]
  | tup a b ih =>
    intro m hm
    obtain ⟨m, rfl⟩ : ∃ k, m = k + 1 := ⟨m - 1, by omega⟩
    unfold eqD eqI eqT
    exact eqL_true rfl fun i x y hx hy => by rw [hx] at hy; cases hy; exact ih x (List.mem_of_getElem? hx) m (by omega)
theorem eqT_cp {n m : Nat} {d d' : D} (h : Cp R d d') (hT : T R n d) (hS : Hd C S R) (hm : n + 13 ≤ m + 1) (hr : ∀ r o, d = .ref (r + 3) → R[r]? = some o → ∃ l, o = .lst l) : eqT S (eqD S m) d d' = some true := by
  induction h generalizing n m with
  | same d hne =>
    cases hT with
    | non => rfl
    | bl b => simp [eqT]
    | int b => simp [eqT]
    | str b => simp [eqT]
    | tup a b => exact absurd rfl (hne _)
    | ref a b =>
      obtain ⟨l, rfl⟩ := hr _ _ rfl a
      unfold eqT
      simp only [hS.at, a, if_true]
      cases b with
      | lst hl hp => exact eqL_true rfl fun i x y hx hy => by rw [hx] at hy; cases hy; exact eq_same (R := R) ((hp x (List.mem_of_getElem? hx)).T (Nat.le_refl _)) m (by omega)
  | lst a b hp =>
    unfold eqT
    simp only [hS.at, a, b, if_true]
    exact eqL_true rfl fun i x y hx hy => by rw [hx] at hy; cases hy; exact eq_same (R := R) ((hp x (List.mem_of_getElem? hx)).T (Nat.le_refl _)) m (by omega)
  | tup hl hc ih =>
    unfold eqT
    cases hT with
    | tup a b =>
      refine eqL_true hl fun i x y hx hy => ?_
      obtain ⟨m, rfl⟩ : ∃ k, m = k + 1 := ⟨m - 1, by omega⟩
      have hx' := b x (List.mem_of_getElem? hx)
      have c := hc i x y hx hy
      unfold eqD eqI
      have go : (∀ r o, x = .ref (r + 3) → R[r]? = some o → ∃ l, o = .lst l) → eqT S (eqD S m) x y = some true := fun hr => ih i x y hx hy hx' (by omega) hr
      split
      · rename_i r q
        split
        · rfl
        · rename_i hne
          refine go fun r' o e hr' => ?_
          cases c with
          | same _ _ => exact absurd rfl hne
          | lst a _ _ =>
            cases e
            rw [a] at hr'; cases hr'
            exact ⟨_, rfl⟩
      · rename_i hno
        refine go fun r' o e hr' => ?_
        subst e
        cases c with
        | same _ _ => exact absurd rfl (hno _ _ rfl)
        | lst _ _ _ => exact absurd rfl (hno _ _ rfl)
theorem fld_ok {r : Nat} {fs : List (Str × D)} {f : Str} {d : D} (h : S[r]? = some (.ins 0 fs)) (hf : fs.lookup f = some d) : wP (pFld [0] f (.ref r) S) Q = Q d S := by
  unfold pFld
  simp only [h]
  simp [hf, wP]
theorem parts_ok {r : Nat} (h : S[r]? = some (.ins 0 townFs)) (k : Q (.tup [.int 1, .tup [], .int 0, .int 0, .int 10]) S) : wR (f_Town_all_parts [.ref r] S) Q := by
  unfold f_Town_all_parts B_Town_all_parts
  walk_at "wx"
  rw [fld_ok h (d := .int 1) (by rfl), fld_ok h (d := .tup []) (by rfl), fld_ok h (d := .int 0) (by rfl), fld_ok h (d := .int 0) (by rfl), fld_ok h (d := .int 10) (by rfl)]
  exact ⟨sz_le (by simp), k⟩
theorem town_eq {r : Nat} (h : S[r]? = some (.ins 0 townFs)) : f_Town_eq [.ref r, .ref r] S = .ok (.bl true) S := by
  have : wR (f_Town_eq [.ref r, .ref r] S) fun d S' => d = .bl true ∧ S' = S := by
    unfold f_Town_eq B_Town_eq
    walk_at "wx"
    have e : ∀ {Q : D → Store → Prop}, wP (pIsO 1 0 (.ref r) S) Q = Q (.bl true) S := by
      intro Q
      unfold pIsO
      simp only [h]
      rfl
    rw [e]
    walk_at "isi"
    refine ⟨r, townFs, rfl, h, by rfl, parts_ok h ⟨r, townFs, rfl, h, by rfl, parts_ok h ?_⟩⟩
    have e2 : eqT S (eqD S deep) (.tup [.int 1, .tup [], .int 0, .int 0, .int 10]) (.tup [.int 1, .tup [], .int 0, .int 0, .int 10]) = some true := by
      show eqL _ _ _ = some true
      refine eqL_true rfl fun i x y hx hy => ?_
      rw [hx] at hy; cases hy
      have pt : T ([] : Store) 3 x := by
        have := List.mem_of_getElem? hx
        simp only [List.mem_cons, List.mem_nil_iff, or_false] at this
        rcases this with rfl | rfl | rfl | rfl | rfl
        · exact .int _
        · exact .tup (by simp) (by simp)
        · exact .int _
        · exact .int _
        · exact .int _
      exact eq_same pt deep (by decide)
    unfold pEq
    rw [e2]
    exact ⟨rfl, rfl⟩
  obtain ⟨d, S', e, rfl, rfl⟩ := wR_get this
  exact e
theorem ne_ok {n : Nat} {x y : D} (h : Cp R x y) (hT : T R n x) (hn : n ≤ 60) (hS : Hd C S R) (k : Q (.bl false) S) : wR (neX 0 f_Town_eq x y S) Q := by
  have plain : (∀ r o, x = .ref (r + 3) → R[r]? = some o → ∃ l, o = .lst l) → wR (Opt (pNe x y S)) Q := fun hr => by
    unfold pNe
    rw [eqT_cp (m := deep) h hT hS (by unfold deep; omega) hr]
    exact k
  cases h with
  | same d hne =>
    cases hT with
    | non => exact plain (fun _ _ h => nomatch h)
    | bl b => exact plain (fun _ _ h => nomatch h)
    | int b => exact plain (fun _ _ h => nomatch h)
    | str b => exact plain (fun _ _ h => nomatch h)
    | tup a b => exact absurd rfl (hne _)
    | ref a b =>
      rename_i r o
      unfold neX
      simp only [hS.at, a]
      cases b with
      | lst hl hp => exact plain fun r' o' e h' => by cases e; rw [a] at h'; cases h'; exact ⟨_, rfl⟩
      | dic hf => simp only [hf, and_self, if_true]; exact k
      | ins =>
        simp only [and_self, if_true]
        rw [town_eq (by rw [hS.at]; exact a)]
        exact k
  | lst a b hp =>
    unfold neX
    simp only [hS.at, a, b]
    exact plain fun r' o' e h' => by cases e; rw [a] at h'; cases h'; exact ⟨_, rfl⟩
  | tup a b => exact plain (fun _ _ h => nomatch h)
end K01

set_option Elab.async false
set_option linter.all false
set_option maxRecDepth 100000
set_option maxHeartbeats 4000000
/-! k01, the plain side: what both judges say of one thing. -/
namespace K01
open PySem PySem.Spec L2 DL
local macro_rules | `(tactic| walk_at "wx") => `(tactic| simp -implicitDefEqProofs only [w_runD, w_seq, w_set, w_setT, w_par, w_aug, w_put, w_ret, w_drop, w_sif, w_next, w_never, w_brk, w_cnt, w_var, w_c, w_un, w_bin, w_nil, w_cons, w_tup, w_lst, w_dic0, w_dic1, w_call, w_cb, w_and, w_or, w_not, w_if, w_chain, w_tval, w_tand, w_tor, w_tnot, w_sl, w_onone, w_osome, w_bm, w_make, w_rng1, w_for, w_lc, w_tyes, w_meth0, w_nex, w_fldput,
  start_def, wipeD, List.map_cons, List.map_nil, List.length_cons, List.length_nil, List.replicate_succ, List.replicate_zero, List.cons_append, List.nil_append, List.set_cons_zero, List.set_cons_succ, getv_0, getv_s, putAll, Nat.reduceAdd, Nat.reduceSub, Nat.zero_add, isB_bl, isI_int, true_and, and_true, if_true, if_false, Bool.false_eq_true, Bool.not_true, Bool.not_false])
local macro_rules | `(tactic| walk_at "ops") => `(tactic| simp -implicitDefEqProofs only [wp_add, wp_sub, wp_neg, wp_mul, wp_mod, wp_fdiv, wp_pow, wp_eqII, wp_eqSS, wp_neBB, wp_lt, wp_le, wp_gt, wp_ge, wp_int1, wp_abs, wp_min, wp_iadd, hx0, hx1, hx2, hx3, hx4, hs1, hs2, hs3, hs4, hlen, isB_bl, isI_int])

local macro_rules | `(tactic| walk_at "isi") => `(tactic| simp -implicitDefEqProofs only [isi_non, isi_bl, isi_int, isi_str, isi_tup, isn_bl, isn_int, isn_tup, isn_ref, wp_isN, wp_isNs, sub_tab, isB_bl, if_true, if_false, Bool.false_eq_true, Bool.not_true, Bool.not_false])
variable {C : Cells} {S R : Store} {Q : D → Store → Prop} {η : DEnv}
def wSec : Str := Str.ofString "secret"
def wSig : Str := Str.ofString "signed"
def wSea : Str := Str.ofString "sealed"
def headW : List D → Option Str
  | .str w :: _ => if w = wSig ∨ w = wSea ∨ w = wSec then some w else none
  | _ => none
def isNum (d : D) (m : Int) : Bool := match d with | .int i => decide (0 ≤ i) && decide (i ≤ m) | _ => false
def shaped (l : List D) : Bool := match headW l with
  | none => decide (l.length ≤ 60)
  | some w => if w = wSec then decide (l.length = 2) && isNum (l.getD 1 .non) 999999999 else decide (l.length = 3) && isNum (l.getD 1 .non) 999
def innT (l : List D) : List D := match headW l with
  | none => l
  | some w => if w = wSec then [] else l.drop 2
def okStr (x : Str) : Bool := decide (x.length ≤ 40) && decide (10 ∉ x.cps.toList)
/-- what stands in a thing, none of one that is no term at its top -/
def inner (d : D) : Option (List D) := match d with
  | .non => some []
  | .str x => if okStr x = true then some [] else none
  | .int i => if isNum (.int i) 999999999999 = true then some [] else none
  | .tup l => if shaped l = true then some (innT l) else none
  | _ => none
theorem gS_ok {x : Str} (h : gS x) : okStr x = (decide (x.length ≤ 40) && x.cps.toList.all fun c => decide (32 ≤ c) && decide (c ≤ 126)) := by
  unfold okStr
  congr 1
  rw [Bool.eq_iff_iff, decide_eq_true_eq, List.all_eq_true]
  rcases h.2 with hp | hn
  · refine ⟨fun _ c hc => by have := hp c hc; simpa using this, fun _ hc => ?_⟩
    have := hp 10 hc
    omega
  · refine ⟨fun h => absurd hn h, fun h => ?_⟩
    have := h 10 hn
    simp at this
/-- isinstance of any thing -/
theorem isi_T {n : Nat} {d : D} {t : String} (h : T R n d) (hS : Hd C S R) : ∃ b, (∀ Q : D → Store → Prop, wP (pIsi 1 t d S) Q = Q (.bl b) S) ∧ (t = "str" → (b = true ↔ ∃ x, d = .str x)) ∧ (t = "tuple" → (b = true ↔ ∃ l, d = .tup l)) ∧ (t = "int" → (b = true ↔ (∃ i, d = .int i) ∨ ∃ i, d = .bl i)) ∧ (t = "bool" → (b = true ↔ ∃ i, d = .bl i)) := by
  cases h with
  | non => exact ⟨_, fun Q => isi_non, by rintro rfl; simp [sub_tab], by rintro rfl; simp [sub_tab], by rintro rfl; simp [sub_tab], by rintro rfl; simp [sub_tab]⟩
  | bl b => exact ⟨_, fun Q => isi_bl, by rintro rfl; simp [sub_tab], by rintro rfl; simp [sub_tab], by rintro rfl; simp [sub_tab], by rintro rfl; simp [sub_tab]⟩
  | int b => exact ⟨_, fun Q => isi_int, by rintro rfl; simp [sub_tab], by rintro rfl; simp [sub_tab], by rintro rfl; simp [sub_tab], by rintro rfl; simp [sub_tab]⟩
  | str b => exact ⟨_, fun Q => isi_str, by rintro rfl; simp [sub_tab], by rintro rfl; simp [sub_tab], by rintro rfl; simp [sub_tab], by rintro rfl; simp [sub_tab]⟩
  | tup a b => exact ⟨_, fun Q => isi_tup, by rintro rfl; simp [sub_tab], by rintro rfl; simp [sub_tab], by rintro rfl; simp [sub_tab], by rintro rfl; simp [sub_tab]⟩
  | ref a b =>
    cases b with
    | lst _ _ => exact ⟨_, fun Q => isi_lst (by rw [hS.at]; exact a), by rintro rfl; simp [sub_tab], by rintro rfl; simp [sub_tab], by rintro rfl; simp [sub_tab], by rintro rfl; simp [sub_tab]⟩
    | dic _ => exact ⟨_, fun Q => isi_dic (by rw [hS.at]; exact a), by rintro rfl; simp [sub_tab], by rintro rfl; simp [sub_tab], by rintro rfl; simp [sub_tab], by rintro rfl; simp [sub_tab]⟩
    | ins => exact ⟨false, fun Q => isi_ins (by rw [hS.at]; exact a), by rintro rfl; simp, by rintro rfl; simp, by rintro rfl; simp, by rintro rfl; simp⟩
theorem isInt_ok {n : Nat} {d : D} (h : T R n d) (hS : Hd C S R) : ∃ b, (∀ Q : D → Store → Prop, Q (.bl b) S → wR (f_is_integer [d] S) Q) ∧ (b = true ↔ ∃ i, d = .int i) := by
  obtain ⟨b1, e1, _, _, h1, _⟩ := isi_T (t := "int") h hS
  obtain ⟨b2, e2, _, _, _, h2⟩ := isi_T (t := "bool") h hS
  have h1 := h1 rfl
  have h2 := h2 rfl
  refine ⟨b1 && !b2, fun Q k => ?_, ?_⟩
  · unfold f_is_integer B_is_integer
    walk_at "wx"
    simp only [e1, e2]
    walk_at "isi"
    cases b1 <;> simpa using k
  · rw [Bool.and_eq_true, h1, Bool.not_eq_true', ← Bool.not_eq_true, h2]
    constructor
    · rintro ⟨h | h, h'⟩
      · exact h
      · exact absurd h h'
    · rintro ⟨i, rfl⟩
      exact ⟨.inl ⟨i, rfl⟩, by rintro ⟨_, h⟩; cases h⟩
theorem within_T {n : Nat} {d : D} {m : Int} (h : T R n d) (hS : Hd C S R) (k : Q (.bl (isNum d m)) S) : wR (f_is_within [d, .int 0, .int m] S) Q := by
  obtain ⟨b, e, hb⟩ := isInt_ok h hS
  unfold f_is_within B_is_within
  walk_at "wx"
  refine e _ ?_
  walk_at "wx"
  cases b with
  | false =>
    walk_at "isi"
    have : isNum d m = false := by
      unfold isNum
      cases d with
      | int i => exact absurd (hb.mpr ⟨i, rfl⟩) (by simp)
      | _ => rfl
    rw [this] at k
    exact k
  | true =>
    obtain ⟨i, rfl⟩ := hb.mp rfl
    walk_at "isi"
    walk_at "ops"
    unfold isNum at k
    by_cases h0 : (0 : Int) ≤ i
    · simpa [h0] using k
    · simpa [h0] using k
/-- the law's own: below m -/
theorem lawnum_T {n : Nat} {d : D} {m : Int} (h : T R n d) (hS : Hd C S R) (k : Q (.bl (isNum d (m - 1))) S) : wR (f__law_is_number [d, .int m] S) Q := by
  obtain ⟨b1, e1, _, _, h1, _⟩ := isi_T (t := "int") h hS
  obtain ⟨b2, e2, _, _, _, h2⟩ := isi_T (t := "bool") h hS
  have h1 := h1 rfl
  have h2 := h2 rfl
  unfold f__law_is_number B__law_is_number
  walk_at "wx"
  simp only [e1, e2]
  walk_at "isi"
  cases d with
  | int i =>
    have : b1 = true := h1.mpr (.inl ⟨i, rfl⟩)
    subst this
    have : b2 = false := by
      rw [← Bool.not_eq_true, h2]
      rintro ⟨_, h⟩; cases h
    subst this
    walk_at "isi"
    walk_at "ops"
    have k' : Q (.bl (decide (0 ≤ i) && decide (i ≤ m - 1))) S := k
    by_cases h0 : (0 : Int) ≤ i
    · have : (decide (i ≤ m - 1)) = decide (i < m) := by
        rw [decide_eq_decide]; omega
      rw [this] at k'
      simpa [h0] using k'
    · simpa [h0] using k'
  | bl b =>
    have : b1 = true := h1.mpr (.inr ⟨b, rfl⟩)
    subst this
    have : b2 = true := h2.mpr ⟨b, rfl⟩
    subst this
    walk_at "isi"
    exact k
  | _ =>
    have : b1 = false := by
      rw [← Bool.not_eq_true, h1]
      rintro (⟨_, h⟩ | ⟨_, h⟩) <;> cases h
    subst this
    walk_at "isi"
    exact k
theorem in3 {d : D} {a b c : Str} {n : Nat} (h : T R n d) (hs : ∃ x, d = .str x) : ∀ Q : D → Store → Prop, wP (pIn d (.tup [.str a, .str b, .str c]) S) Q = Q (.bl (match d with | .str x => decide (x = a ∨ x = b ∨ x = c) | _ => false)) S := by
  obtain ⟨x, rfl⟩ := hs
  intro Q
  have e : ∀ (y : Str), eqD S deep (.str y) (.str x) = some (decide (x = y)) := by
    intro y
    unfold deep eqD eqI eqT
    simp only [Option.some.injEq]
    rw [Bool.eq_iff_iff, beq_iff_eq, decide_eq_true_eq]
    exact eq_comm
  unfold pIn inD
  simp only [seqOf, anyD, e]
  show Q _ _ = _
  congr 1
  congr 1
  rw [Bool.eq_iff_iff]
  simp
theorem head_ok {n : Nat} {l : List D} (h : T R n (.tup l)) (hS : Hd C S R) (k : Q (match headW l with | some w => .str w | none => .non) S) : wR (f_head_word [.tup l] S) Q := by
  unfold f_head_word B_head_word
  walk_at "wx"
  simp only [wp_lenT]
  walk_at "ops"
  cases l with
  | nil =>
    rw [if_neg (by decide)]
    exact k
  | cons d l =>
    rw [if_pos (by simp)]
    have hd : ∃ m, T R m d := by
      cases h with
      | tup a b => exact ⟨_, b d List.mem_cons_self⟩
    obtain ⟨m, hd⟩ := hd
    have hx : ∀ Q : D → Store → Prop, wP (pIx (.tup (d :: l)) (.int 0) S) Q = Q d S := fun Q => wp_ixT (DL.atI_nat (by decide) rfl)
    simp only [hx]
    obtain ⟨b, e, hb, _⟩ := isi_T (t := "str") hd hS
    have hb := hb rfl
    rw [e]
    walk_at "isi"
    cases b with
    | false =>
      walk_at "isi"
      have : headW (d :: l) = none := by
        unfold headW
        cases d with
        | str x => exact absurd (hb.mpr ⟨x, rfl⟩) (by simp)
        | _ => rfl
      rw [this] at k
      exact k
    | true =>
      obtain ⟨x, rfl⟩ := hb.mp rfl
      walk_at "isi"
      rw [hx]
      refine ⟨sz_le (by simp), ?_⟩
      rw [in3 hd ⟨x, rfl⟩]
      walk_at "isi"
      simp only [hx]
      have eh : headW (.str x :: l) = if x = wSig ∨ x = wSea ∨ x = wSec then some x else none := rfl
      rw [eh] at k
      show if decide (x = wSig ∨ x = wSea ∨ x = wSec) = true then Q (.str x) S else Q .non S
      by_cases hc : x = wSig ∨ x = wSea ∨ x = wSec
      · rw [if_pos (decide_eq_true hc)]
        rw [if_pos hc] at k
        exact k
      · rw [if_neg (by simpa using hc)]
        rw [if_neg hc] at k
        exact k
theorem headW_some {l : List D} {w : Str} (h : headW l = some w) : (w = wSig ∨ w = wSea ∨ w = wSec) ∧ ∃ r, l = .str w :: r := by
  cases l with
  | nil => cases h
  | cons d r =>
    cases d with
    | str x =>
      have eh : headW (.str x :: r) = if x = wSig ∨ x = wSea ∨ x = wSec then some x else none := rfl
      rw [eh] at h
      by_cases hc : x = wSig ∨ x = wSea ∨ x = wSec
      · rw [if_pos hc] at h; cases h; exact ⟨hc, r, rfl⟩
      · rw [if_neg hc] at h; cases h
    | _ => cases h
theorem T.el {n : Nat} {l : List D} (h : T R n (.tup l)) {d : D} (hd : d ∈ l) : T R n d := by
  cases h with
  | tup a b => exact (b d hd).mono (by omega)
theorem T.len {n : Nat} {l : List D} (h : T R n (.tup l)) : l.length ≤ 10000 := by
  cases h with
  | tup a b => exact a
theorem ix_T {n : Nat} {l : List D} {i : Nat} (hl : i < l.length) (h : T R n (.tup l)) : T R n (l.getD i .non) ∧ ∀ Q : D → Store → Prop, wP (pIx (.tup l) (.int i) S) Q = Q (l.getD i .non) S := by
  have e : l.getD i .non = l[i] := by simp [List.getD, List.getElem?_eq_getElem hl]
  rw [e]
  exact ⟨h.el (List.getElem_mem hl), fun Q => wp_ixT (DL.atI_nat (by omega) (by simp [List.getElem?_eq_getElem hl]))⟩
theorem ne_sec {w : Str} (h : w = wSig ∨ w = wSea ∨ w = wSec) : (w == Str.ofString "secret") = decide (w = wSec) := by
  rw [Bool.eq_iff_iff, beq_iff_eq, decide_eq_true_eq]
  exact Iff.rfl
theorem shaped_ok {n : Nat} {l : List D} (h : T R n (.tup l)) (hS : Hd C S R) (k : Q (.bl (shaped l)) S) : wR (f_is_shaped [.tup l] S) Q := by
  unfold f_is_shaped B_is_shaped
  walk_at "wx"
  refine head_ok h hS ?_
  cases hw : headW l with
  | none =>
    walk_at "isi"
    simp only [wp_lenT]
    walk_at "ops"
    have : shaped l = decide ((l.length : Int) ≤ 60) := by
      unfold shaped
      rw [hw]
      show decide (l.length ≤ 60) = decide ((l.length : Int) ≤ 60)
      rw [decide_eq_decide]
      omega
    rw [this] at k
    exact k
  | some w =>
    obtain ⟨h3, r, rfl⟩ := headW_some hw
    walk_at "isi"
    walk_at "ops"
    rw [ne_sec h3]
    simp only [wp_lenT]
    walk_at "ops"
    have es : shaped (.str w :: r) = if w = wSec then decide ((D.str w :: r).length = 2) && isNum ((D.str w :: r).getD 1 .non) 999999999 else decide ((D.str w :: r).length = 3) && isNum ((D.str w :: r).getD 1 .non) 999 := by
      unfold shaped
      rw [hw]
    rw [es] at k
    generalize hl : (D.str w :: r) = l at *
    by_cases hc : w = wSec
    · rw [if_pos (decide_eq_true hc)]
      rw [if_pos hc] at k
      by_cases h2 : l.length = 2
      · rw [if_pos (by rw [h2]; rfl)]
        obtain ⟨ht, hx⟩ := ix_T (S := S) (i := 1) (by omega) h
        have hx' : ∀ Q : D → Store → Prop, wP (pIx (.tup l) (.int 1) S) Q = Q (l.getD 1 .non) S := hx
        rw [hx']
        refine within_T ht hS ?_
        rw [decide_eq_true h2, Bool.true_and] at k
        exact k
      · rw [if_neg (by simp; omega)]
        rw [decide_eq_false h2, Bool.false_and] at k
        exact k
    · rw [if_neg (by simpa using hc)]
      rw [if_neg hc] at k
      by_cases h2 : l.length = 3
      · rw [if_pos (by rw [h2]; rfl)]
        obtain ⟨ht, hx⟩ := ix_T (S := S) (i := 1) (by omega) h
        have hx' : ∀ Q : D → Store → Prop, wP (pIx (.tup l) (.int 1) S) Q = Q (l.getD 1 .non) S := hx
        rw [hx']
        refine within_T ht hS ?_
        rw [decide_eq_true h2, Bool.true_and] at k
        exact k
      · rw [if_neg (by simp; omega)]
        rw [decide_eq_false h2, Bool.false_and] at k
        exact k
theorem inner_ok {n : Nat} {l : List D} (h : T R n (.tup l)) (hS : Hd C S R) (k : Q (.tup (innT l)) S) : wR (f_inner_of [.tup l] S) Q := by
  unfold f_inner_of B_inner_of
  walk_at "wx"
  walk_at "isi"
  refine head_ok h hS ?_
  cases hw : headW l with
  | none =>
    have hi : innT l = l := by unfold innT; rw [hw]
    rw [hi] at k
    simp only [wp_eqNS]
    walk_at "isi"
    refine head_ok h hS ?_
    rw [hw]
    walk_at "isi"
    exact k
  | some w =>
    obtain ⟨h3, r, rfl⟩ := headW_some hw
    have hi : innT (.str w :: r) = if w = wSec then [] else (D.str w :: r).drop 2 := by unfold innT; rw [hw]
    rw [hi] at k
    walk_at "ops"
    rw [ne_sec h3]
    by_cases hc : w = wSec
    · rw [if_pos (decide_eq_true hc)]
      rw [if_pos hc] at k
      exact ⟨sz_le (by simp), k⟩
    · rw [if_neg (by simpa using hc)]
      rw [if_neg hc] at k
      refine head_ok h hS ?_
      rw [hw]
      walk_at "isi"
      rw [wp_slT]
      have e : cutD (D.str w :: r) (some 2) none = (D.str w :: r).drop 2 := by
        unfold cutD
        have e1 : HT.sIx (D.str w :: r).length 0 (some 2) = min 2 (D.str w :: r).length := by
          unfold HT.sIx
          simp
          try omega
        have e2 : HT.sIx (D.str w :: r).length (D.str w :: r).length none = (D.str w :: r).length := rfl
        rw [e1, e2]
        rw [List.take_of_length_le (by rw [List.length_drop]; exact Nat.le_refl _)]
        by_cases h2 : 2 ≤ (D.str w :: r).length
        · rw [Nat.min_eq_left h2]
        · rw [Nat.min_eq_right (by omega), List.drop_of_length_le (Nat.le_refl _), List.drop_of_length_le (by omega)]
      rw [e]
      exact k
end K01

set_option Elab.async false
set_option linter.all false
set_option maxRecDepth 100000
set_option maxHeartbeats 4000000
/-! k01, the plain side: both judges of one thing. -/
namespace K01
open PySem PySem.Spec L2 DL
local macro_rules | `(tactic| walk_at "wx") => `(tactic| simp -implicitDefEqProofs only [w_runD, w_seq, w_set, w_setT, w_par, w_aug, w_put, w_ret, w_drop, w_sif, w_next, w_never, w_brk, w_cnt, w_var, w_c, w_un, w_bin, w_nil, w_cons, w_tup, w_lst, w_dic0, w_dic1, w_call, w_cb, w_and, w_or, w_not, w_if, w_chain, w_tval, w_tand, w_tor, w_tnot, w_sl, w_onone, w_osome, w_bm, w_make, w_rng1, w_for, w_lc, w_tyes, w_meth0, w_nex, w_fldput,
  start_def, wipeD, List.map_cons, List.map_nil, List.length_cons, List.length_nil, List.replicate_succ, List.replicate_zero, List.cons_append, List.nil_append, List.set_cons_zero, List.set_cons_succ, getv_0, getv_s, putAll, Nat.reduceAdd, Nat.reduceSub, Nat.zero_add, isB_bl, isI_int, true_and, and_true, if_true, if_false, Bool.false_eq_true, Bool.not_true, Bool.not_false])
local macro_rules | `(tactic| walk_at "ops") => `(tactic| simp -implicitDefEqProofs only [wp_add, wp_sub, wp_neg, wp_mul, wp_mod, wp_fdiv, wp_pow, wp_eqII, wp_eqSS, wp_neBB, wp_lt, wp_le, wp_gt, wp_ge, wp_int1, wp_abs, wp_min, wp_iadd, hx0, hx1, hx2, hx3, hx4, hs1, hs2, hs3, hs4, hlen, isB_bl, isI_int])

local macro_rules | `(tactic| walk_at "isi") => `(tactic| simp -implicitDefEqProofs only [isi_non, isi_bl, isi_int, isi_str, isi_tup, isn_bl, isn_int, isn_tup, isn_ref, wp_isN, wp_isNs, sub_tab, isB_bl, if_true, if_false, Bool.false_eq_true, Bool.not_true, Bool.not_false])
variable {C : Cells} {S R : Store} {Q : D → Store → Prop} {η : DEnv}
theorem iter_str {x : Str} {QI : Itm → Store → Prop} : wR (iSeq (eC (.str x)) η S) QI = QI ⟨x.cps.toList.map fun c => .str ⟨#[c]⟩, []⟩ S := rfl
theorem blsOf_map : ∀ {bs : List Bool}, blsOf (bs.map D.bl) = some bs
  | [] => rfl
  | b :: bs => by simp [blsOf, blsOf_map (bs := bs)]
theorem le1 (a b : Nat) : wP (pLe (.str ⟨#[a]⟩) (.str ⟨#[b]⟩) S) Q = Q (.bl (decide (a ≤ b))) S := by
  unfold pLe pOrd
  show Q (.bl (!decide ([b] < [a]))) S = _
  have e : ([b] < [a]) ↔ b < a := by rw [List.cons_lt_cons_iff]; simp
  congr 2
  by_cases h : b < a
  · rw [decide_eq_true (e.mpr h), decide_eq_false (by omega)]; rfl
  · rw [decide_eq_false (fun z => h (e.mp z)), decide_eq_true (by omega)]; rfl
theorem isStr_ok {x : Str} (hx : gS x) (hS : Hd C S R) (k : ∀ M S', Hd C S' (R ++ M) → Q (.bl (okStr x)) S') : wR (f_is_string [.str x] S) Q := by
  unfold f_is_string B_is_string
  walk_at "wx"
  walk_at "isi"
  rw [wp_lenS]
  refine ⟨sz_le (by have := hx.1; omega), ?_⟩
  walk_at "ops"
  rw [gS_ok hx] at k
  by_cases h40 : x.length ≤ 40
  · rw [if_pos (decide_eq_true (by omega))]
    rw [w_iseq]
    walk_at "wx"
    rw [iter_str]
    rw [decide_eq_true h40, Bool.true_and] at k
    obtain ⟨acc, S3, e, hh, ha⟩ := w_lcF (src := []) (g := .nm 1) (t := tYes') (e := eChain pLe pLe (eC (.str (Str.ofString " "))) (eVar 1) (eC (.str (Str.ofString "~")))) (η := [some (D.str x), none])
      (fun rem acc S => Hd C S R ∧ ∃ cs ds, x.cps.toList = cs ++ ds ∧ rem = (ds.map fun c => D.str ⟨#[c]⟩) ∧ acc = (cs.map fun c => D.bl (decide (32 ≤ c) && decide (c ≤ 126)))) (K := fun acc S => Hd C S R ∧ acc = (x.cps.toList.map fun c => D.bl (decide (32 ≤ c) && decide (c ≤ 126)))) (fun _ _ _ _ => trivial)
      (fun y rem acc S ⟨hM, cs, ds, e1, e2, e3⟩ => by
        refine ⟨_, rfl, ?_⟩
        cases ds with
        | nil => cases e2
        | cons c ds =>
          rw [List.map_cons] at e2
          obtain ⟨rfl, rfl⟩ := List.cons.inj e2
          walk_at "wx"
          have s1 : Str.ofString " " = ⟨#[32]⟩ := by decide +kernel
          have s2 : Str.ofString "~" = ⟨#[126]⟩ := by decide +kernel
          rw [s1, s2]
          simp only [le1]
          walk_at "isi"
          have hlen : acc.length < sizeLine := by
            have h1 : x.cps.toList.length = cs.length + (c :: ds).length := by rw [e1, List.length_append]
            have h2 : x.cps.toList.length = x.length := by simp [Str.length]
            rw [e3, List.length_map, sizeLine_eq]
            omega
          have fin : ∀ b, b = (decide (32 ≤ c) && decide (c ≤ 126)) → acc.length < sizeLine ∧ Hd C S R ∧ ∃ cs' ds', x.cps.toList = cs' ++ ds' ∧ (ds.map fun c => D.str ⟨#[c]⟩) = (ds'.map fun c => D.str ⟨#[c]⟩) ∧ acc ++ [D.bl b] = (cs'.map fun c => D.bl (decide (32 ≤ c) && decide (c ≤ 126))) := fun b hb =>
            ⟨hlen, hM, cs ++ [c], ds, by rw [e1]; simp, rfl, by rw [e3, hb]; simp⟩
          split
          · rename_i hc
            exact fin _ (by rw [hc, Bool.true_and])
          · rename_i hc
            exact fin _ (by simp only [Bool.not_eq_true] at hc; rw [hc, Bool.false_and]))
      (fun acc S ⟨hM, cs, ds, e1, e2, e3⟩ => by
        cases ds with
        | nil => exact ⟨hM, by rw [e3, e1]; simp⟩
        | cons c ds => cases e2) (xs := x.cps.toList.map fun c => D.str ⟨#[c]⟩) (S := S) (acc := []) ⟨hS, [], x.cps.toList, by simp, rfl, rfl⟩
    refine ⟨acc, S3, e, ?_⟩
    have ea : pAll [.ref S3.length] (S3 ++ [.lst acc]) = some (.bl ((x.cps.toList.map fun c => decide (32 ≤ c) && decide (c ≤ 126)).all id), S3 ++ [.lst acc]) := by
      have e1 : acc = (x.cps.toList.map fun c => decide (32 ≤ c) && decide (c ≤ 126)).map D.bl := by rw [ha, List.map_map]; rfl
      unfold pAll pBls
      simp only [List.getElem?_append_right (Nat.le_refl _), Nat.sub_self, List.getElem?_cons_zero]
      rw [e1, blsOf_map]
    rw [ea]
    have := k [.lst acc] _ (hh.app _)
    rw [show (x.cps.toList.map fun c => decide (32 ≤ c) && decide (c ≤ 126)).all id = x.cps.toList.all fun c => decide (32 ≤ c) && decide (c ≤ 126) from by rw [List.all_map]; rfl]
    exact this
  · rw [if_neg (by rw [decide_eq_true_eq]; omega)]
    rw [decide_eq_false h40, Bool.false_and] at k
    exact k [] S (by simpa using hS)
theorem bare_ok {n : Nat} {d : D} (hT : T R n d) (hS : Hd C S R) (hn : ∀ l, d ≠ .tup l) (k : ∀ M S', Hd C S' (R ++ M) → Q (.bl (inner d).isSome) S') : wR (f_is_bare [d] S) Q := by
  have k0 : Q (.bl (inner d).isSome) S := k [] S (by simpa using hS)
  have nos : (∀ x, d ≠ .str x) → ∀ {Q : D → Store → Prop}, Q (.bl false) S → wR (f_is_string [d] S) Q := fun hx Q k => by
    obtain ⟨b, e, hb, _⟩ := isi_T (t := "str") hT hS
    have hb := hb rfl
    have : b = false := by
      rw [← Bool.not_eq_true, hb]
      rintro ⟨x, rfl⟩
      exact hx x rfl
    subst this
    unfold f_is_string B_is_string
    walk_at "wx"
    rw [e]
    walk_at "isi"
    exact k
  unfold f_is_bare B_is_bare
  cases d with
  | non => walk_at "wx"; walk_at "isi"; exact k0
  | str x =>
    have hx : gS x := by cases hT; assumption
    walk_at "wx"
    walk_at "isi"
    refine isStr_ok hx hS fun M S' h' => ?_
    walk_at "isi"
    have k1 := k M S' h'
    have ei : inner (.str x) = if okStr x = true then some [] else none := rfl
    rw [ei] at k1
    by_cases ho : okStr x = true
    · rw [if_pos ho]
      rw [if_pos ho] at k1
      exact k1
    · rw [if_neg ho]
      rw [if_neg ho] at k1
      exact within_T (.str hx : T (R ++ M) n (.str x)) h' k1
  | tup l => exact absurd rfl (hn l)
  | bl b =>
    walk_at "wx"
    walk_at "isi"
    refine nos (fun _ h => nomatch h) ?_
    walk_at "isi"
    exact within_T hT hS k0
  | int i =>
    walk_at "wx"
    walk_at "isi"
    refine nos (fun _ h => nomatch h) ?_
    walk_at "isi"
    refine within_T hT hS ?_
    have ei : inner (.int i) = if isNum (.int i) 999999999999 = true then some [] else none := rfl
    rw [ei] at k0
    by_cases ho : isNum (.int i) 999999999999 = true
    · rw [if_pos ho] at k0
      rw [ho]; exact k0
    · rw [if_neg ho] at k0
      rw [Bool.not_eq_true] at ho
      rw [ho]; exact k0
  | ref r =>
    walk_at "wx"
    walk_at "isi"
    refine nos (fun _ h => nomatch h) ?_
    walk_at "isi"
    exact within_T hT hS k0
  | fro l => cases hT
/-! ### the law's own -/
def wRow : Str := Str.ofString "row"
def kindW (d : D) : Str := match d with
  | .non => Str.ofString "none"
  | .str x => if okStr x = true then Str.ofString "string" else Str.ofString ""
  | .tup l => (match headW l with
    | some w => if shaped l = true then w else Str.ofString ""
    | none => if shaped l = true then wRow else Str.ofString "")
  | d => if isNum d 999999999999 = true then Str.ofString "number" else Str.ofString ""
theorem notin_nl {x : Str} (hx : gS x) : wP (pNotIn (.str (Str.ofString "\n")) (.str x) S) Q = Q (.bl (decide (10 ∉ x.cps.toList))) S := by
  have e : Str.ofString "\n" = ⟨#[10]⟩ := by decide +kernel
  rw [e]
  show Q (.bl (!(!(Builtin.Str.occurrences x ⟨#[10]⟩ 0 x.length 1).isEmpty))) S = _
  rw [StrLaws.found_one]
  congr 2
  by_cases h : 10 ∈ x.cps.toList <;> simp [h]
theorem kind_ok {n : Nat} {d : D} (hT : T R n d) (hS : Hd C S R) (k : Q (.str (kindW d)) S) : wR (f__law_kind [d] S) Q := by
  unfold f__law_kind B__law_kind
  obtain ⟨bt, et, _, ht, _⟩ := isi_T (t := "tuple") hT hS
  have ht := ht rfl
  obtain ⟨bs, es, hs, _⟩ := isi_T (t := "str") hT hS
  have hs := hs rfl
  have other : (∀ x, d ≠ .str x) → (∀ l, d ≠ .tup l) → bt = false ∧ bs = false := fun h1 h2 => by
    refine ⟨?_, ?_⟩
    · rw [← Bool.not_eq_true, ht]; rintro ⟨x, rfl⟩; exact h2 x rfl
    · rw [← Bool.not_eq_true, hs]; rintro ⟨x, rfl⟩; exact h1 x rfl
  have p12 : CPow 10 12 := ⟨by decide, by decide, by decide⟩
  have e12 : (10 : Int) ^ Int.toNat 12 = 1000000000000 := by decide
  have e9 : (10 : Int) ^ Int.toNat 9 = 1000000000 := by decide
  have num : (∀ x, d ≠ .str x) → (∀ l, d ≠ .tup l) → d ≠ .non → kindW d = (if isNum d 999999999999 = true then Str.ofString "number" else Str.ofString "") := fun h1 h2 h3 => by
    cases d with
    | non => exact absurd rfl h3
    | str x => exact absurd rfl (h1 x)
    | tup l => exact absurd rfl (h2 l)
    | _ => rfl
  have fin : (∀ x, d ≠ .str x) → (∀ l, d ≠ .tup l) → d ≠ .non → wR (f__law_is_number [d, .int 1000000000000] S) fun x S1 => isB x fun b => if b = true then Q (.str (Str.ofString "number")) S1 else Q (.str (Str.ofString "")) S1 := fun h1 h2 h3 => by
    refine lawnum_T hT hS ?_
    rw [isB_bl]
    rw [num h1 h2 h3] at k
    have : (1000000000000 : Int) - 1 = 999999999999 := by decide
    rw [this]
    split
    · rename_i hc; rw [if_pos hc] at k; exact k
    · rename_i hc; rw [if_neg hc] at k; exact k
  cases d with
  | non => walk_at "wx"; walk_at "isi"; exact k
  | fro l => cases hT
  | bl b =>
    obtain ⟨rfl, rfl⟩ := other (fun _ h => nomatch h) (fun _ h => nomatch h)
    walk_at "wx"
    walk_at "isi"
    rw [wp_pow, e12]
    exact ⟨p12, fin (fun _ h => nomatch h) (fun _ h => nomatch h) (fun h => nomatch h)⟩
  | int b =>
    obtain ⟨rfl, rfl⟩ := other (fun _ h => nomatch h) (fun _ h => nomatch h)
    walk_at "wx"
    walk_at "isi"
    rw [wp_pow, e12]
    exact ⟨p12, fin (fun _ h => nomatch h) (fun _ h => nomatch h) (fun h => nomatch h)⟩
  | ref b =>
    obtain ⟨rfl, rfl⟩ := other (fun _ h => nomatch h) (fun _ h => nomatch h)
    walk_at "wx"
    walk_at "isi"
    rw [es]
    walk_at "isi"
    rw [et]
    walk_at "isi"
    rw [wp_pow, e12]
    exact ⟨p12, fin (fun _ h => nomatch h) (fun _ h => nomatch h) (fun h => nomatch h)⟩
  | str x =>
    have hx : gS x := by cases hT; assumption
    walk_at "wx"
    walk_at "isi"
    rw [wp_lenS]
    refine ⟨sz_le (by have := hx.1; omega), ?_⟩
    walk_at "ops"
    have ek : kindW (.str x) = if okStr x = true then Str.ofString "string" else Str.ofString "" := rfl
    rw [ek] at k
    unfold okStr at k
    by_cases h40 : x.length ≤ 40
    · rw [if_pos (decide_eq_true (by omega)), notin_nl hx]
      walk_at "isi"
      rw [decide_eq_true h40, Bool.true_and] at k
      split
      · rename_i hc; rw [if_pos hc] at k; exact k
      · rename_i hc; rw [if_neg hc] at k; exact k
    · rw [if_neg (by rw [decide_eq_true_eq]; omega)]
      rw [decide_eq_false h40, Bool.false_and] at k
      exact k
  | tup l =>
    walk_at "wx"
    walk_at "isi"
    simp only [wp_lenT]
    walk_at "ops"
    have ek : kindW (.tup l) = (match headW l with
      | some w => if shaped l = true then w else Str.ofString ""
      | none => if shaped l = true then wRow else Str.ofString "") := rfl
    rw [ek] at k
    have row : headW l = none → if decide ((l.length : Int) ≤ 60) = true then Q (.str (Str.ofString "row")) S else Q (.str (Str.ofString "")) S := fun hw => by
      have es : shaped l = decide (l.length ≤ 60) := by unfold shaped; rw [hw]
      rw [hw, es] at k
      by_cases h60 : l.length ≤ 60
      · rw [if_pos (decide_eq_true (by omega))]
        rw [decide_eq_true h60] at k
        exact k
      · rw [if_neg (by rw [decide_eq_true_eq]; omega)]
        rw [decide_eq_false h60] at k
        exact k
    cases l with
    | nil =>
      rw [if_neg (by decide)]
      exact row rfl
    | cons d l =>
      rw [if_pos (by simp)]
      have hd : T R n d := hT.el List.mem_cons_self
      have hx : ∀ Q : D → Store → Prop, wP (pIx (.tup (d :: l)) (.int 0) S) Q = Q d S := fun Q => wp_ixT (DL.atI_nat (by decide) rfl)
      simp only [hx]
      obtain ⟨b, e, hb, _⟩ := isi_T (t := "str") hd hS
      have hb := hb rfl
      rw [e]
      walk_at "isi"
      cases b with
      | false =>
        walk_at "isi"
        refine row ?_
        unfold headW
        cases d with
        | str x => exact absurd (hb.mpr ⟨x, rfl⟩) (by simp)
        | _ => rfl
      | true =>
        obtain ⟨x, rfl⟩ := hb.mp rfl
        walk_at "isi"
        rw [hx]
        refine ⟨sz_le (by simp), ?_⟩
        rw [in3 hd ⟨x, rfl⟩]
        walk_at "isi"
        have eh : headW (.str x :: l) = if x = wSig ∨ x = wSea ∨ x = wSec then some x else none := rfl
        by_cases hc : x = wSig ∨ x = wSea ∨ x = wSec
        · rw [if_pos hc] at eh
          have hc' : x = Str.ofString "secret" ∨ x = Str.ofString "signed" ∨ x = Str.ofString "sealed" := by
            rcases hc with h | h | h
            · exact .inr (.inl h)
            · exact .inr (.inr h)
            · exact .inl h
          rw [if_pos (decide_eq_true hc'), hx]
          walk_at "ops"
          rw [ne_sec hc]
          rw [eh] at k
          have es : shaped (.str x :: l) = if x = wSec then decide ((D.str x :: l).length = 2) && isNum ((D.str x :: l).getD 1 .non) 999999999 else decide ((D.str x :: l).length = 3) && isNum ((D.str x :: l).getD 1 .non) 999 := by
            unfold shaped
            rw [eh]
          rw [es] at k
          have k' : Q (.str (if (if x = wSec then decide ((D.str x :: l).length = 2) && isNum ((D.str x :: l).getD 1 .non) 999999999 else decide ((D.str x :: l).length = 3) && isNum ((D.str x :: l).getD 1 .non) 999) = true then x else Str.ofString "")) S := k
          clear k es row ek
          generalize hl : (D.str x :: l) = l' at *
          by_cases hs : x = wSec
          · rw [if_pos (decide_eq_true hs)]
            rw [if_pos hs] at k'
            by_cases h2 : l'.length = 2
            · rw [if_pos (by rw [h2]; rfl)]
              obtain ⟨ht', hx'⟩ := ix_T (S := S) (i := 1) (by omega) hT
              have hx'' : ∀ Q : D → Store → Prop, wP (pIx (.tup l') (.int 1) S) Q = Q (l'.getD 1 .non) S := hx'
              rw [hx'', e9]
              refine ⟨⟨by decide, by decide, by decide⟩, lawnum_T ht' hS ?_⟩
              rw [decide_eq_true h2, Bool.true_and] at k'
              have : (1000000000 : Int) - 1 = 999999999 := by decide
              rw [this, isB_bl]
              split
              · rename_i hq; rw [if_pos hq, hs] at k'; exact k'
              · rename_i hq; rw [if_neg hq] at k'; exact k'
            · rw [if_neg (by simp; omega)]
              rw [decide_eq_false h2, Bool.false_and, if_neg (by decide)] at k'
              exact k'
          · rw [if_neg (by simpa using hs)]
            rw [if_neg hs] at k'
            by_cases h2 : l'.length = 3
            · rw [if_pos (by rw [h2]; rfl)]
              obtain ⟨ht', hx'⟩ := ix_T (S := S) (i := 1) (by omega) hT
              have hx'' : ∀ Q : D → Store → Prop, wP (pIx (.tup l') (.int 1) S) Q = Q (l'.getD 1 .non) S := hx'
              rw [hx'']
              refine lawnum_T ht' hS ?_
              rw [decide_eq_true h2, Bool.true_and] at k'
              have : (1000 : Int) - 1 = 999 := by decide
              rw [this, isB_bl]
              split
              · rename_i hq; rw [if_pos hq] at k'; rw [hx]; exact k'
              · rename_i hq; rw [if_neg hq] at k'; exact k'
            · rw [if_neg (by simp; omega)]
              rw [decide_eq_false h2, Bool.false_and, if_neg (by decide)] at k'
              exact k'
        · rw [if_neg hc] at eh
          have hc' : ¬ (x = Str.ofString "secret" ∨ x = Str.ofString "signed" ∨ x = Str.ofString "sealed") := by
            rintro (h | h | h)
            · exact hc (.inr (.inr h))
            · exact hc (.inl h)
            · exact hc (.inr (.inl h))
          rw [if_neg (by rw [decide_eq_true_eq]; exact hc')]
          exact row eh
theorem kind_none {n : Nat} {d : D} (hT : T R n d) : kindW d = Str.ofString "" ↔ inner d = none := by
  have n1 : Str.ofString "none" ≠ Str.ofString "" := by decide +kernel
  have n2 : Str.ofString "string" ≠ Str.ofString "" := by decide +kernel
  have n3 : Str.ofString "number" ≠ Str.ofString "" := by decide +kernel
  have n4 : wRow ≠ Str.ofString "" := by decide +kernel
  have n5 : wSec ≠ Str.ofString "" := by decide +kernel
  have n6 : wSig ≠ Str.ofString "" := by decide +kernel
  have n7 : wSea ≠ Str.ofString "" := by decide +kernel
  cases d with
  | non => simp [kindW, inner, n1]
  | bl b => simp [kindW, inner, isNum]
  | fro l => cases hT
  | ref r => simp [kindW, inner, isNum]
  | str x =>
    by_cases h : okStr x = true
    · simp [kindW, inner, h, n2]
    · simp [kindW, inner, h]
  | int i =>
    by_cases h : isNum (.int i) 999999999999 = true
    · simp [kindW, inner, h, n3]
    · simp [kindW, inner, h]
  | tup l =>
    cases hw : headW l with
    | none =>
      by_cases h : shaped l = true
      · simp [kindW, inner, h, hw, n4]
      · simp [kindW, inner, h, hw]
    | some w =>
      have nw : w ≠ Str.ofString "" := by
        rcases (headW_some hw).1 with h | h | h <;> rw [h] <;> assumption
      by_cases h : shaped l = true
      · simp [kindW, inner, h, hw, nw]
      · simp [kindW, inner, h, hw]
/-- what the law takes out of a thing: a new list of it -/
theorem lawin_ok {n : Nat} {d : D} {ds : List D} (hT : T R n d) (hS : Hd C S R) (hi : inner d = some ds) (k : Q (.ref S.length) (S ++ [.lst ds])) : wR (f__law_within [d] S) Q := by
  unfold f__law_within B__law_within
  walk_at "wx"
  refine kind_ok hT hS ?_
  walk_at "ops"
  have in2 : ∀ (x : Str) (Q : D → Store → Prop), wP (pIn (.str x) (.tup [.str (Str.ofString "signed"), .str (Str.ofString "sealed")]) S) Q = Q (.bl (decide (x = wSig ∨ x = wSea))) S := by
    intro x Q
    have e : ∀ (y : Str), eqD S deep (.str y) (.str x) = some (decide (x = y)) := by
      intro y
      unfold deep eqD eqI eqT
      simp only [Option.some.injEq]
      rw [Bool.eq_iff_iff, beq_iff_eq, decide_eq_true_eq]
      exact eq_comm
    unfold pIn inD
    simp only [seqOf, anyD, e]
    show Q _ _ = _
    congr 2
    rw [Bool.eq_iff_iff]
    simp
    exact Iff.rfl
  have r1 : ∀ x : Str, (x == Str.ofString "row") = decide (x = wRow) := fun x => by
    rw [Bool.eq_iff_iff, beq_iff_eq, decide_eq_true_eq]
    exact Iff.rfl
  rw [r1]
  have m1 : wSec ≠ wRow := by decide +kernel
  have m2 : wSig ≠ wRow := by decide +kernel
  have m3 : wSea ≠ wRow := by decide +kernel
  have m4 : wSec ≠ wSig := by decide +kernel
  have m5 : wSec ≠ wSea := by decide +kernel
  have empty : ds = [] → kindW d ≠ wRow → kindW d ≠ wSig → kindW d ≠ wSea → (if decide (kindW d = wRow) = true then wP (pListOf [d] S) Q
      else 2 ≤ sizeLine ∧ wP (pIn (.str (kindW d)) (.tup [.str (Str.ofString "signed"), .str (Str.ofString "sealed")]) S) fun x S1 => isB x fun b => if b = true then wP (pIx d (.int 2) S1) fun x S1 => 1 ≤ sizeLine ∧ Q (.ref S1.length) (S1 ++ [.lst [x]]) else 0 ≤ sizeLine ∧ Q (.ref S1.length) (S1 ++ [.lst []])) := by
    rintro rfl h1 h2 h3
    rw [if_neg (by simpa using h1), in2]
    refine ⟨sz_le (by decide), ?_⟩
    walk_at "isi"
    rw [if_neg (by simpa using ⟨h2, h3⟩)]
    exact ⟨Nat.zero_le _, k⟩
  cases d with
  | non =>
    cases hi
    exact empty rfl (by decide +kernel) (by decide +kernel) (by decide +kernel)
  | bl b => cases hi
  | fro l => cases hT
  | ref r => cases hi
  | str x =>
    have ei : inner (.str x) = if okStr x = true then some [] else none := rfl
    rw [ei] at hi
    by_cases h : okStr x = true
    · rw [if_pos h] at hi
      cases hi
      have ek : kindW (.str x) = Str.ofString "string" := by simp [kindW, h]
      refine empty rfl ?_ ?_ ?_ <;> rw [ek] <;> decide +kernel
    · rw [if_neg h] at hi; cases hi
  | int i =>
    have ei : inner (.int i) = if isNum (.int i) 999999999999 = true then some [] else none := rfl
    rw [ei] at hi
    by_cases h : isNum (.int i) 999999999999 = true
    · rw [if_pos h] at hi
      cases hi
      have ek : kindW (.int i) = Str.ofString "number" := by simp [kindW, h]
      refine empty rfl ?_ ?_ ?_ <;> rw [ek] <;> decide +kernel
    · rw [if_neg h] at hi; cases hi
  | tup l =>
    have ei : inner (.tup l) = if shaped l = true then some (innT l) else none := rfl
    rw [ei] at hi
    by_cases h : shaped l = true
    · rw [if_pos h] at hi
      have hi : innT l = ds := by injection hi
      cases hw : headW l with
      | none =>
        have ek : kindW (.tup l) = wRow := by simp [kindW, h, hw]
        have el : innT l = l := by unfold innT; rw [hw]
        rw [ek, if_pos (decide_eq_true rfl), wp_listT]
        rw [← hi, el] at k
        exact k
      | some w =>
        have ek : kindW (.tup l) = w := by simp [kindW, h, hw]
        have el : innT l = if w = wSec then [] else l.drop 2 := by unfold innT; rw [hw]
        have hw3 := (headW_some hw).1
        by_cases hs : w = wSec
        · rw [if_pos hs] at el
          exact empty (by rw [← hi, el]) (by rw [ek, hs]; exact m1) (by rw [ek, hs]; exact m4) (by rw [ek, hs]; exact m5)
        · rw [if_neg hs] at el
          have hw2 : w = wSig ∨ w = wSea := by
            rcases hw3 with h | h | h
            · exact .inl h
            · exact .inr h
            · exact absurd h hs
          have nr : w ≠ wRow := by rcases hw2 with h | h <;> rw [h] <;> assumption
          rw [ek, if_neg (by simpa using nr), in2]
          refine ⟨sz_le (by decide), ?_⟩
          walk_at "isi"
          rw [if_pos (decide_eq_true hw2)]
          have es : shaped l = (decide (l.length = 3) && isNum (l.getD 1 .non) 999) := by unfold shaped; rw [hw]; exact if_neg hs
          rw [es, Bool.and_eq_true, decide_eq_true_eq] at h
          obtain ⟨ht', hx'⟩ := ix_T (S := S) (i := 2) (by omega) hT
          have hx'' : ∀ Q : D → Store → Prop, wP (pIx (.tup l) (.int 2) S) Q = Q (l.getD 2 .non) S := hx'
          rw [hx'']
          have e2 : l.drop 2 = [l.getD 2 .non] := by
            match l, h.1 with
            | [a, b, c], _ => rfl
          rw [← hi, el, e2] at k
          exact ⟨sz_le (by decide), k⟩
    · rw [if_neg h] at hi; cases hi
theorem inner_T {n : Nat} {d : D} {ds : List D} (hT : T R n d) (hi : inner d = some ds) : (∀ e ∈ ds, T R n e) ∧ ds.length ≤ 60 := by
  cases d with
  | non => cases hi; exact ⟨by simp, by simp⟩
  | bl b => cases hi
  | fro l => cases hT
  | ref r => cases hi
  | str x =>
    have ei : inner (.str x) = if okStr x = true then some [] else none := rfl
    rw [ei] at hi
    by_cases h : okStr x = true
    · rw [if_pos h] at hi; cases hi; exact ⟨by simp, by simp⟩
    · rw [if_neg h] at hi; cases hi
  | int i =>
    have ei : inner (.int i) = if isNum (.int i) 999999999999 = true then some [] else none := rfl
    rw [ei] at hi
    by_cases h : isNum (.int i) 999999999999 = true
    · rw [if_pos h] at hi; cases hi; exact ⟨by simp, by simp⟩
    · rw [if_neg h] at hi; cases hi
  | tup l =>
    have ei : inner (.tup l) = if shaped l = true then some (innT l) else none := rfl
    rw [ei] at hi
    by_cases h : shaped l = true
    · rw [if_pos h] at hi
      have hi : innT l = ds := by injection hi
      subst hi
      cases hw : headW l with
      | none =>
        have el : innT l = l := by unfold innT; rw [hw]
        have es : shaped l = decide (l.length ≤ 60) := by unfold shaped; rw [hw]
        rw [es, decide_eq_true_eq] at h
        rw [el]
        exact ⟨fun e he => hT.el he, h⟩
      | some w =>
        have el : innT l = if w = wSec then [] else l.drop 2 := by unfold innT; rw [hw]
        by_cases hs : w = wSec
        · rw [el, if_pos hs]; exact ⟨by simp, by simp⟩
        · rw [el, if_neg hs]
          have es : shaped l = (decide (l.length = 3) && isNum (l.getD 1 .non) 999) := by unfold shaped; rw [hw]; exact if_neg hs
          rw [es, Bool.and_eq_true, decide_eq_true_eq] at h
          exact ⟨fun e he => hT.el (List.mem_of_mem_drop he), by rw [List.length_drop]; omega⟩
    · rw [if_neg h] at hi; cases hi
end K01

set_option Elab.async false
set_option linter.all false
set_option maxRecDepth 100000
set_option maxHeartbeats 4000000
/-! k01, the plain side: both judges' loops, the law. -/
namespace K01
open PySem PySem.Spec L2 DL
local macro_rules | `(tactic| walk_at "wx") => `(tactic| simp -implicitDefEqProofs only [w_runD, w_seq, w_set, w_setT, w_par, w_aug, w_put, w_ret, w_drop, w_sif, w_next, w_never, w_brk, w_cnt, w_var, w_c, w_un, w_bin, w_nil, w_cons, w_tup, w_lst, w_dic0, w_dic1, w_call, w_cb, w_and, w_or, w_not, w_if, w_chain, w_tval, w_tand, w_tor, w_tnot, w_sl, w_onone, w_osome, w_bm, w_make, w_rng1, w_for, w_lc, w_tyes, w_meth0, w_nex, w_fldput,
  start_def, wipeD, List.map_cons, List.map_nil, List.length_cons, List.length_nil, List.replicate_succ, List.replicate_zero, List.cons_append, List.nil_append, List.set_cons_zero, List.set_cons_succ, getv_0, getv_s, putAll, Nat.reduceAdd, Nat.reduceSub, Nat.zero_add, isB_bl, isI_int, true_and, and_true, if_true, if_false, Bool.false_eq_true, Bool.not_true, Bool.not_false])
local macro_rules | `(tactic| walk_at "ops") => `(tactic| simp -implicitDefEqProofs only [wp_add, wp_sub, wp_neg, wp_mul, wp_mod, wp_fdiv, wp_pow, wp_eqII, wp_eqSS, wp_neBB, wp_lt, wp_le, wp_gt, wp_ge, wp_int1, wp_abs, wp_min, wp_iadd, hx0, hx1, hx2, hx3, hx4, hs1, hs2, hs3, hs4, hlen, isB_bl, isI_int])

local macro_rules | `(tactic| walk_at "isi") => `(tactic| simp -implicitDefEqProofs only [isi_non, isi_bl, isi_int, isi_str, isi_tup, isn_bl, isn_int, isn_tup, isn_ref, wp_isN, wp_isNs, sub_tab, isB_bl, if_true, if_false, Bool.false_eq_true, Bool.not_true, Bool.not_false])
variable {C : Cells} {S R : Store} {Q : D → Store → Prop} {η : DEnv}
/-- both judges: what waits, the next one first; how many were seen -/
def jd : Nat → List (D × Int) → Int → Bool
  | 0, _, _ => true
  | _ + 1, [], _ => true
  | n + 1, (d, lv) :: sk, m => if 5000 < m + 1 ∨ 30 < lv then false else match inner d with
    | none => false
    | some ds => jd n ((ds.map fun e => (e, lv + 1)).reverse ++ sk) (m + 1)
def ent (p : D × Int) : D := .tup [p.1, .int p.2]
def row (sk : List (D × Int)) : List D := sk.reverse.map ent
theorem row_cons (p : D × Int) (sk : List (D × Int)) : row (p :: sk) = row sk ++ [ent p] := by simp [row]
theorem row_more (ds : List D) (lv : Int) (sk : List (D × Int)) : row ((ds.map fun e => (e, lv)).reverse ++ sk) = row sk ++ ds.map fun e => ent (e, lv) := by
  simp [row, List.map_map, Function.comp_def]
theorem row_len (sk : List (D × Int)) : (row sk).length = sk.length := by simp [row]
/-- pairs of some things and a number -/
theorem pairs_ok {ds : List D} {e : DE} {η : DEnv} {i : Nat} {lv : Int} (hS : Hd C S R) (hl : ds.length ≤ 60)
    (he : ∀ (x : D) (S : Store) (Q : D → Store → Prop), Q (ent (x, lv)) S → wR (e (η.set i (some x)) S) Q) (src : List (Nat × O)) (hsrc : srcOk src S) :
    lcF src (.nm i) tYes' e η ds S [] = some (ds.map fun e => ent (e, lv), S) := by
  obtain ⟨acc, S2, e1, rfl, ea⟩ := w_lcF (src := src) (g := .nm i) (t := tYes') (e := e) (η := η)
    (fun rem acc S' => S' = S ∧ ∃ cs, ds = cs ++ rem ∧ acc = cs.map fun e => ent (e, lv)) (K := fun acc S' => S' = S ∧ acc = ds.map fun e => ent (e, lv)) (fun _ _ _ ⟨h, _⟩ => by rw [h]; exact hsrc)
    (fun x rem acc S' ⟨e1, cs, e2, e3⟩ => by
      subst e1
      refine ⟨_, rfl, ?_⟩
      rw [w_tyes, if_pos rfl]
      refine he x _ _ ⟨?_, rfl, cs ++ [x], by rw [e2]; simp, by rw [e3]; simp⟩
      have : cs.length ≤ ds.length := by rw [e2]; simp
      rw [e3, List.length_map, sizeLine_eq]; omega)
    (fun acc S' ⟨e1, cs, e2, e3⟩ => ⟨e1, by rw [e3, e2]; simp⟩) (xs := ds) (S := S) (acc := []) ⟨rfl, [], by simp, rfl⟩
  subst ea
  exact e1
theorem pop_ok {p : D × Int} {sk : List (D × Int)} {M : Store} {r : Nat} (er : r = R.length + 3) (h : Hd C S (R ++ .lst (row (p :: sk)) :: M)) : ∃ S', Hd C S' (R ++ .lst (row sk) :: M) ∧ ∀ Q : D → Store → Prop, wP (mLst gPop (.ref r) [] S) Q = Q (ent p) S' := by
  subst er
  refine ⟨S.set (R.length + 3) (.lst (row sk)), ?_, fun Q => ?_⟩
  · have := h.set R.length (.lst (row sk))
    rwa [set_mid] at this
  · have e : (row (p :: sk)).dropLast = row sk := by rw [row_cons, List.dropLast_concat]
    rw [wp_pop (l := row (p :: sk)) (d := ent p) (by rw [h.at]; exact at_mid) (by rw [row_cons]; simp), e]
theorem ext_ok {sk : List (D × Int)} {ds : List D} {lv : Int} {M : Store} {r : Nat} (er : r = R.length + 3) (h : Hd C S (R ++ .lst (row sk) :: M)) (hl : sk.length + ds.length ≤ 1000000) : ∃ S', Hd C S' (R ++ .lst (row ((ds.map fun e => (e, lv)).reverse ++ sk)) :: (M ++ [.lst (ds.map fun e => ent (e, lv))])) ∧ ∀ Q : D → Store → Prop, wP (mLst gExtend (.ref r) [.ref S.length] (S ++ [.lst (ds.map fun e => ent (e, lv))])) Q = Q .non S' := by
  subst er
  have h2 := h.app [.lst (ds.map fun e => ent (e, lv))]
  have h2' : Hd C (S ++ [.lst (ds.map fun e => ent (e, lv))]) (R ++ .lst (row sk) :: (M ++ [.lst (ds.map fun e => ent (e, lv))])) := by simpa using h2
  refine ⟨(S ++ [O.lst (ds.map fun e => ent (e, lv))]).set (R.length + 3) (.lst (row ((ds.map fun e => (e, lv)).reverse ++ sk))), ?_, fun Q => ?_⟩
  · have := h2'.set R.length (.lst (row ((ds.map fun e => (e, lv)).reverse ++ sk)))
    rwa [set_mid] at this
  · rw [wp_ext (l := row sk) (m := ds.map fun e => ent (e, lv)) (by rw [h2'.at]; exact at_mid) (by simp) (by rw [row_len, List.length_map, sizeLine_eq]; omega), row_more]
def J (d : D) : Bool := jd 5003 [(d, 1)] 0
theorem ent_eq (p : D × Int) : ent p = .tup [p.1, .int p.2] := rfl
theorem bounded_ok {n : Nat} {d : D} (hT : T R n d) (hS : Hd C S R) (k : ∀ M S', Hd C S' (R ++ M) → Q (.bl (J d)) S') : wR (f_is_term [d] S) Q := by
  unfold f_is_term B_is_term
  walk_at "wx"
  unfold f_is_bounded B_is_bounded
  walk_at "wx"
  refine ⟨sz_le (by simp), sz_le (by simp), ?_⟩
  rw [hS.len]
  have h1 := hS.app [.lst (row [(d, 1)])]
  refine w_while (fun mm η S => ∃ (sk : List (D × Int)) (m : Int) (M : Store) (v5 v6 v7 : Option D), η = [some d, some (.int 30), some (.int 5000), some (.ref (R.length + 3)), some (.int m), v5, v6, v7] ∧ 0 ≤ m ∧ m ≤ 5000 ∧ mm = (5001 - m).toNat ∧ (sk.length : Int) ≤ 1 + 60 * m ∧ (∀ p ∈ sk, T R n p.1) ∧ Hd C S (R ++ .lst (row sk) :: M) ∧ jd (5003 - m).toNat sk m = J d)
    ?_ (m := (5001 - 0 : Int).toNat) ⟨[(d, 1)], 0, [], none, none, none, rfl, by decide, by decide, rfl, by simp, by simpa using hT, by simpa [row, ent] using h1, rfl⟩ (fuel_big (by decide))
  rintro mm η S ⟨sk, m, M, v5, v6, v7, rfl, m0, m1, rfl, hlen, hsk, h2, hj⟩
  have hget : S[R.length + 3]? = some (.lst (row sk)) := by rw [h2.at]; exact at_mid
  walk_at "wx"
  rw [wp_lenL hget]
  walk_at "ops"
  obtain ⟨fu, efu⟩ : ∃ fu, (5003 - m).toNat = fu + 1 := ⟨(5003 - m).toNat - 1, by omega⟩
  rw [efu] at hj
  cases sk with
  | nil =>
    rw [if_neg (by rw [row_len]; decide)]
    have : J d = true := by rw [← hj]; rfl
    rw [← this]
    exact k _ _ h2
  | cons p sk =>
    obtain ⟨here, lv⟩ := p
    rw [if_pos (by rw [row_len]; simp)]
    have ty : tyD "list" (.ref (R.length + 3)) S = true := by unfold tyD; simp only [hget]; rfl
    refine ⟨ty, ?_⟩
    obtain ⟨S2, h3, epop⟩ := pop_ok rfl h2
    rw [epop]
    refine ⟨[here, .int lv], rfl, rfl, ?_⟩
    walk_at "wx"
    walk_at "ops"
    have hTh : T R n here := hsk _ List.mem_cons_self
    have hTh' : ∀ M, T (R ++ M) n here := fun M => hTh.app M
    have ejd : jd (fu + 1) ((here, lv) :: sk) m = if 5000 < m + 1 ∨ 30 < lv then false else match inner here with
      | none => false
      | some ds => jd fu ((ds.map fun e => (e, lv + 1)).reverse ++ sk) (m + 1) := rfl
    rw [ejd] at hj
    have kF : ∀ {b : Bool} {M S'}, b = J d → Hd C S' (R ++ M) → Q (.bl b) S' := fun e h => by rw [e]; exact k _ _ h
    by_cases c1 : 5000 < m + 1
    · rw [if_pos (decide_eq_true c1)]
      rw [if_pos (.inl c1)] at hj
      exact kF hj h3
    · rw [if_neg (by simpa using c1)]
      by_cases c2 : 30 < lv
      · rw [if_pos (decide_eq_true c2)]
        rw [if_pos (.inr c2)] at hj
        exact kF hj h3
      · rw [if_neg (by simpa using c2)]
        rw [if_neg (by rintro (h | h); exact c1 h; exact c2 h)] at hj
        obtain ⟨bt, et, _, ht, _⟩ := isi_T (t := "tuple") (hTh' _) h3
        have ht := ht rfl
        rw [et]
        walk_at "isi"
        have next : ∀ {sk' : List (D × Int)} {M' S'}, (sk'.length : Int) ≤ 1 + 60 * (m + 1) → (∀ p ∈ sk', T R n p.1) → Hd C S' (R ++ .lst (row sk') :: M') → jd fu sk' (m + 1) = J d → ∀ v7, ∃ m', m' < (5001 - m).toNat ∧ ∃ (sk : List (D × Int)) (m2 : Int) (M : Store) (v5 v6 v7' : Option D), [some d, some (.int 30), some (.int 5000), some (.ref (R.length + 3)), some (.int (m + 1)), some here, some (.int lv), v7] = [some d, some (.int 30), some (.int 5000), some (.ref (R.length + 3)), some (.int m2), v5, v6, v7'] ∧ 0 ≤ m2 ∧ m2 ≤ 5000 ∧ m' = (5001 - m2).toNat ∧ (sk.length : Int) ≤ 1 + 60 * m2 ∧ (∀ p ∈ sk, T R n p.1) ∧ Hd C S' (R ++ .lst (row sk) :: M) ∧ jd (5003 - m2).toNat sk m2 = J d := by
          intro sk' M' S' a b c e v7
          refine ⟨(5001 - (m + 1)).toNat, by omega, sk', m + 1, M', _, _, _, rfl, by omega, by omega, rfl, a, b, c, ?_⟩
          have : (5003 - (m + 1)).toNat = fu := by omega
          rw [this]
          exact e
        cases bt with
        | true =>
          obtain ⟨l, rfl⟩ := ht.mp rfl
          walk_at "isi"
          have h3' : Hd C S2 (R ++ (.lst (row sk) :: M)) := h3
          refine shaped_ok (hTh' _) h3' ?_
          walk_at "isi"
          have ei : inner (.tup l) = if shaped l = true then some (innT l) else none := rfl
          rw [ei] at hj
          by_cases hs : shaped l = true
          · rw [if_pos hs] at hj
            rw [hs]
            walk_at "isi"
            have hj : jd fu (((innT l).map fun e => (e, lv + 1)).reverse ++ sk) (m + 1) = J d := hj
            obtain ⟨hTd, hld⟩ := inner_T (ds := innT l) hTh (by rw [ei, if_pos hs])
            have ty2 : tyD "list" (.ref (R.length + 3)) S2 = true := by unfold tyD; simp only [h3.at, at_mid]; rfl
            refine ⟨ty2, ?_⟩
            rw [w_iseq]
            walk_at "wx"
            refine inner_ok (hTh' _) h3' ?_
            rw [iter_tup]
            refine ⟨_, _, pairs_ok (i := 7) (lv := lv + 1) h3 hld (fun x S Q kk => ?_) [] trivial, ?_⟩
            · walk_at "wx"
              walk_at "ops"
              exact ⟨sz_le (by simp), kk⟩
            · obtain ⟨S3, h4, eext⟩ := ext_ok (lv := lv + 1) (ds := innT l) rfl h3 (by simp only [List.length_cons] at hlen; omega)
              rw [eext]
              refine next ?_ ?_ h4 hj _
              · simp only [List.length_append, List.length_reverse, List.length_map, List.length_cons] at hlen ⊢
                omega
              · intro p hp
                rcases List.mem_append.mp hp with q | q
                · obtain ⟨e, he, rfl⟩ := List.mem_map.mp (List.mem_reverse.mp q)
                  exact hTd e he
                · exact hsk p (List.mem_cons_of_mem _ q)
          · rw [if_neg hs] at hj
            rw [Bool.not_eq_true] at hs
            rw [hs]
            walk_at "isi"
            exact kF hj h3
        | false =>
          walk_at "isi"
          have hnt : ∀ l, here ≠ .tup l := by
            rintro l rfl
            exact absurd (ht.mpr ⟨l, rfl⟩) (by decide)
          refine bare_ok (hTh' _) h3 hnt fun M4 S4 h4 => ?_
          walk_at "isi"
          have h4' : Hd C S4 (R ++ .lst (row sk) :: (M ++ M4)) := by simpa using h4
          cases hi : inner here with
          | none =>
            rw [hi] at hj
            have hj : false = J d := hj
            rw [show (none : Option (List D)).isSome = false from rfl, if_pos (show (!false) = true from rfl)]
            exact kF hj h4'
          | some ds =>
            rw [hi] at hj
            have hj : jd fu ((ds.map fun e => (e, lv + 1)).reverse ++ sk) (m + 1) = J d := hj
            have hds : ds = [] := by
              cases here with
              | tup l => exact absurd rfl (hnt l)
              | non => cases hi; rfl
              | bl b => cases hi
              | fro b => cases hi
              | ref b => cases hi
              | str x =>
                have ei : inner (.str x) = if okStr x = true then some [] else none := rfl
                rw [ei] at hi
                split at hi
                · cases hi; rfl
                · cases hi
              | int i =>
                have ei : inner (.int i) = if isNum (.int i) 999999999999 = true then some [] else none := rfl
                rw [ei] at hi
                split at hi
                · cases hi; rfl
                · cases hi
            subst hds
            rw [show (some ([] : List D)).isSome = true from rfl, if_neg (by decide)]
            exact next (by simp only [List.length_cons] at hlen; omega) (fun p hp => hsk p (List.mem_cons_of_mem _ hp)) h4' hj _
theorem lawterm_ok {n : Nat} {d : D} (hT : T R n d) (hS : Hd C S R) (k : ∀ M S', Hd C S' (R ++ M) → Q (.bl (J d)) S') : wR (f__law_is_term [d] S) Q := by
  unfold f__law_is_term B__law_is_term
  walk_at "wx"
  refine ⟨sz_le (by simp), sz_le (by simp), ?_⟩
  rw [hS.len]
  have h1 := hS.app [.lst (row [(d, 1)])]
  refine w_while (fun mm η S => ∃ (sk : List (D × Int)) (m : Int) (M : Store) (v3 v4 v5 : Option D), η = [some d, some (.int m), some (.ref (R.length + 3)), v3, v4, v5] ∧ 0 ≤ m ∧ m ≤ 5000 ∧ mm = (5001 - m).toNat ∧ (sk.length : Int) ≤ 1 + 60 * m ∧ (∀ p ∈ sk, T R n p.1) ∧ Hd C S (R ++ .lst (row sk) :: M) ∧ jd (5003 - m).toNat sk m = J d)
    ?_ (m := (5001 - 0 : Int).toNat) ⟨[(d, 1)], 0, [], none, none, none, rfl, by decide, by decide, rfl, by simp, by simpa using hT, by simpa [row, ent] using h1, rfl⟩ (fuel_big (by decide))
  rintro mm η S ⟨sk, m, M, v3, v4, v5, rfl, m0, m1, rfl, hlen, hsk, h2, hj⟩
  have hget : S[R.length + 3]? = some (.lst (row sk)) := by rw [h2.at]; exact at_mid
  walk_at "wx"
  rw [wp_lenL hget]
  walk_at "ops"
  obtain ⟨fu, efu⟩ : ∃ fu, (5003 - m).toNat = fu + 1 := ⟨(5003 - m).toNat - 1, by omega⟩
  rw [efu] at hj
  cases sk with
  | nil =>
    rw [if_neg (by rw [row_len]; decide)]
    have : J d = true := by rw [← hj]; rfl
    rw [← this]
    exact k _ _ h2
  | cons p sk =>
    obtain ⟨here, lv⟩ := p
    rw [if_pos (by rw [row_len]; simp)]
    have ty : tyD "list" (.ref (R.length + 3)) S = true := by unfold tyD; simp only [hget]; rfl
    refine ⟨ty, ?_⟩
    obtain ⟨S2, h3, epop⟩ := pop_ok rfl h2
    rw [epop]
    refine ⟨[here, .int lv], rfl, rfl, ?_⟩
    walk_at "wx"
    walk_at "ops"
    have hTh : T R n here := hsk _ List.mem_cons_self
    have hTh' : ∀ M, T (R ++ M) n here := fun M => hTh.app M
    have ejd : jd (fu + 1) ((here, lv) :: sk) m = if 5000 < m + 1 ∨ 30 < lv then false else match inner here with
      | none => false
      | some ds => jd fu ((ds.map fun e => (e, lv + 1)).reverse ++ sk) (m + 1) := rfl
    rw [ejd] at hj
    have kF : ∀ {b : Bool} {M S'}, b = J d → Hd C S' (R ++ M) → Q (.bl b) S' := fun e h => by rw [e]; exact k _ _ h
    by_cases c2 : 30 < lv
    · rw [if_pos (decide_eq_true c2)]
      rw [if_pos (.inr c2)] at hj
      exact kF hj h3
    · rw [if_neg (by simpa using c2)]
      by_cases c1 : 5000 < m + 1
      · rw [if_pos (decide_eq_true c1)]
        rw [if_pos (.inl c1)] at hj
        exact kF hj h3
      · rw [if_neg (by simpa using c1)]
        rw [if_neg (by rintro (h | h); exact c1 h; exact c2 h)] at hj
        refine kind_ok (hTh' _) h3 ?_
        walk_at "ops"
        cases hi : inner here with
        | none =>
          rw [hi] at hj
          have hj : false = J d := hj
          rw [(kind_none hTh).mpr hi, if_pos (by decide +kernel)]
          exact kF hj h3
        | some ds =>
          rw [hi] at hj
          have hj : jd fu ((ds.map fun e => (e, lv + 1)).reverse ++ sk) (m + 1) = J d := hj
          have hne : kindW here ≠ Str.ofString "" := fun e => by rw [(kind_none hTh).mp e] at hi; cases hi
          rw [if_neg (by rw [beq_iff_eq]; exact hne)]
          obtain ⟨hTd, hld⟩ := inner_T hTh hi
          have ty2 : tyD "list" (.ref (R.length + 3)) S2 = true := by unfold tyD; simp only [h3.at, at_mid]; rfl
          refine ⟨ty2, ?_⟩
          rw [w_iseq]
          walk_at "wx"
          refine lawin_ok (hTh' _) h3 hi ?_
          have h4 : Hd C (S2 ++ [.lst ds]) (R ++ .lst (row sk) :: (M ++ [.lst ds])) := by simpa using h3.app [.lst ds]
          rw [iter_lst (l := ds) (by simp)]
          refine ⟨_, _, pairs_ok (i := 5) (lv := lv + 1) h4 hld (fun x S Q kk => ?_) [(S2.length, .lst ds)] ⟨by simp, trivial⟩, ?_⟩
          · walk_at "wx"
            walk_at "ops"
            exact ⟨sz_le (by simp), kk⟩
          · obtain ⟨S3, h5, eext⟩ := ext_ok (lv := lv + 1) (ds := ds) rfl h4 (by simp only [List.length_cons] at hlen; omega)
            rw [eext]
            refine ⟨(5001 - (m + 1)).toNat, by omega, (ds.map fun e => (e, lv + 1)).reverse ++ sk, m + 1, _, _, _, _, rfl, by omega, by omega, rfl, ?_, ?_, h5, ?_⟩
            · simp only [List.length_append, List.length_reverse, List.length_map, List.length_cons] at hlen ⊢
              omega
            · intro p hp
              rcases List.mem_append.mp hp with q | q
              · obtain ⟨e, he, rfl⟩ := List.mem_map.mp (List.mem_reverse.mp q)
                exact hTd e he
              · exact hsk p (List.mem_cons_of_mem _ q)
            · have : (5003 - (m + 1)).toNat = fu := by omega
              rw [this]
              exact hj
end K01

set_option Elab.async false
set_option linter.all false
set_option maxRecDepth 100000
set_option maxHeartbeats 4000000
/-! k01, the plain side: the law. -/
namespace K01
open PySem PySem.Spec L2 DL
local macro_rules | `(tactic| walk_at "wx") => `(tactic| simp -implicitDefEqProofs only [w_runD, w_seq, w_set, w_setT, w_par, w_aug, w_put, w_ret, w_drop, w_sif, w_next, w_never, w_brk, w_cnt, w_var, w_c, w_un, w_bin, w_nil, w_cons, w_tup, w_lst, w_dic0, w_dic1, w_call, w_cb, w_and, w_or, w_not, w_if, w_chain, w_tval, w_tand, w_tor, w_tnot, w_sl, w_onone, w_osome, w_bm, w_make, w_rng1, w_for, w_lc, w_tyes, w_meth0, w_nex, w_fldput,
  start_def, wipeD, List.map_cons, List.map_nil, List.length_cons, List.length_nil, List.replicate_succ, List.replicate_zero, List.cons_append, List.nil_append, List.set_cons_zero, List.set_cons_succ, getv_0, getv_s, putAll, Nat.reduceAdd, Nat.reduceSub, Nat.zero_add, isB_bl, isI_int, true_and, and_true, if_true, if_false, Bool.false_eq_true, Bool.not_true, Bool.not_false])
local macro_rules | `(tactic| walk_at "ops") => `(tactic| simp -implicitDefEqProofs only [wp_add, wp_sub, wp_neg, wp_mul, wp_mod, wp_fdiv, wp_pow, wp_eqII, wp_eqSS, wp_neBB, wp_lt, wp_le, wp_gt, wp_ge, wp_int1, wp_abs, wp_min, wp_iadd, hx0, hx1, hx2, hx3, hx4, hs1, hs2, hs3, hs4, hlen, isB_bl, isI_int])

local macro_rules | `(tactic| walk_at "isi") => `(tactic| simp -implicitDefEqProofs only [isi_non, isi_bl, isi_int, isi_str, isi_tup, isn_bl, isn_int, isn_tup, isn_ref, wp_isN, wp_isNs, sub_tab, isB_bl, if_true, if_false, Bool.false_eq_true, Bool.not_true, Bool.not_false])
variable {C : Cells} {S R : Store} {Q : D → Store → Prop} {η : DEnv}
theorem hand_ok (ns : List Int) (k : ∀ (C : Cells) (c : Int), Q (.ref 2) (st C.o C.cs 0 0 c 0 [])) : wR (f__law_hand [.fro (ns.map D.int)] []) Q := by
  unfold f__law_hand B__law_hand
  walk_at "wx"
  rw [w_iseq]
  walk_at "wx"
  rw [wp_slF]
  generalize hl : cutD (ns.map D.int) none (some 60) = l
  have hi : ∀ x ∈ l, ∃ i, x = .int i := fun x hx => by
    subst hl
    obtain ⟨i, _, rfl⟩ := List.mem_map.mp (cut_mem hx)
    exact ⟨i, rfl⟩
  have hlen : l.length ≤ 60 := by
    subst hl
    unfold cutD
    rw [List.length_take]
    have : HT.sIx (ns.map D.int).length (ns.map D.int).length (some 60) ≤ 60 := by
      unfold HT.sIx
      simp
      omega
    omega
  rw [iter_lst (l := l) (by simp)]
  obtain ⟨acc, S2, e, rfl, ha⟩ := w_lcF (src := [(0, .lst l)]) (g := .nm 2) (t := tYes') (e := eCB pAbs (aCons (eCB pInt1 (aCons (eVar 2) aNil)) aNil)) (η := [some (D.fro (ns.map D.int)), none, none])
    (fun rem acc S' => S' = [.lst l] ∧ acc.length + rem.length = l.length ∧ (∀ x ∈ rem, ∃ i, x = .int i) ∧ ∀ x ∈ acc, ∃ i, x = .int i) (K := fun acc S' => S' = [.lst l] ∧ ∀ x ∈ acc, ∃ i, x = .int i) (fun _ _ _ ⟨h, _⟩ => by rw [h]; exact ⟨rfl, trivial⟩)
    (fun x rem acc S' ⟨e1, e2, e3, e4⟩ => by
      subst e1
      obtain ⟨i, rfl⟩ := e3 x List.mem_cons_self
      refine ⟨_, rfl, ?_⟩
      walk_at "wx"
      walk_at "ops"
      refine ⟨by simp only [List.length_cons] at e2; rw [sizeLine_eq]; omega, trivial, by simp only [List.length_append, List.length_cons, List.length_nil] at e2 ⊢; omega, fun x hx => e3 x (List.mem_cons_of_mem _ hx), fun x hx => ?_⟩
      rcases List.mem_append.mp hx with q | q
      · exact e4 x q
      · rw [List.mem_singleton.mp q]; exact ⟨_, rfl⟩)
    (fun acc S' ⟨e1, _, _, e4⟩ => ⟨e1, e4⟩) (xs := l) (S := [.lst l]) (acc := []) ⟨rfl, by simp, hi, by simp⟩
  refine ⟨acc, _, e, ?_⟩
  walk_at "wx"
  rw [wp_lenL (l := acc) rfl]
  walk_at "ops"
  exact ⟨sz_le (by simp), k ⟨.lst l, acc, ha⟩ _⟩
theorem law_ok (ns : List Int) : wR (f_law [.fro (ns.map D.int)] []) fun d S => d = .bl true := by
  unfold f_law B_law
  walk_at "wx"
  refine hand_ok ns fun C c => ?_
  have h0 : Hd C (st C.o C.cs 0 0 c 0 []) [] := ⟨0, 0, c, 0, by decide, rfl⟩
  refine ⟨10, rfl, by decide, by decide, ?_⟩
  generalize hsc : D.fro (ns.map D.int) = sc
  refine w_forF (src := []) (fun rem η S => ∃ R v2 v3 v4 v5 v6 v7, η = [some sc, some (.ref 2), v2, v3, v4, v5, v6, v7] ∧ Hd C S R) (fun _ _ _ _ => trivial) ?_ ?_ ⟨[], none, none, none, none, none, none, rfl, h0⟩
  · rintro x rem η S ⟨R, v2, v3, v4, v5, v6, v7, rfl, h1⟩
    refine ⟨_, rfl, ?_⟩
    walk_at "wx"
    refine draw_ok h1 (by decide) (by decide) fun v S1 a0 a1 h2 => ?_
    walk_at "ops"
    refine term_ok 7 40 (by decide) (by decide) (by omega) h2 fun t M S2 ht h3 => ?_
    have hTt : ∀ R', T R' 15 t := fun R' => (ht.T (by decide)).mono (by decide)
    rw [w_iseq]
    walk_at "wx"
    refine bent_ok 9 40 (by decide) (by decide) ht h3 fun b1 M1 S3 hb1 h4 => ?_
    refine bent_ok 9 40 (by decide) (by decide) ht h4 fun b2 M2 S4 hb2 h5 => ?_
    refine odd_ok h5 fun o M3 S5 ho h6 => ⟨sz_le (by simp), ?_⟩
    have h7 := h6.app [.lst [t, b1, b2, o]]
    generalize hR : R ++ M ++ M1 ++ M2 ++ M3 ++ [O.lst [t, b1, b2, o]] = R1 at h7
    have hat : R1[(R ++ M ++ M1 ++ M2 ++ M3).length]? = some (.lst [t, b1, b2, o]) := by rw [← hR]; simp only [List.getElem?_append_right (Nat.le_refl _), Nat.sub_self]; rfl
    rw [h6.len]
    generalize (R ++ M ++ M1 ++ M2 ++ M3).length = r at hat
    rw [iter_lst (l := [t, b1, b2, o]) (by rw [h7.at]; exact hat)]
    refine w_forF (src := [(r + 3, .lst [t, b1, b2, o])]) (fun rem η S => ∃ M v4 v5 v6 v7, η = [some sc, some (.ref 2), some x, some t, v4, v5, v6, v7] ∧ Hd C S (R1 ++ M) ∧ ∀ e ∈ rem, T R1 15 e) (fun _ _ _ ⟨M, _, _, _, _, _, h, _⟩ => ⟨by rw [h.at]; exact get_app hat, trivial⟩) ?_ ?_ ⟨[], _, _, _, _, rfl, by simpa using h7, ?_⟩
    · rintro e rem η S ⟨M', u4, u5, u6, u7, rfl, h8, hrem⟩
      refine ⟨_, rfl, ?_⟩
      walk_at "wx"
      have he : T (R1 ++ M') 15 e := (hrem e List.mem_cons_self).app _
      refine lawterm_ok he h8 fun N1 T1 g1 => ?_
      refine copy_ok 15 40 (by decide) (he.app N1) g1 fun kept N2 T2 hcp g2 => ?_
      refine bounded_ok ((he.app N1).app N2) g2 fun N3 T3 g3 => ?_
      walk_at "isi"
      walk_at "ops"
      rw [show (J e == J e) = true from by simp]
      walk_at "isi"
      refine ne_ok (n := 15) (hcp.app N3) (((he.app N1).app N2).app N3) (by decide) g3 ?_
      walk_at "isi"
      exact ⟨M' ++ N1 ++ N2 ++ N3, _, _, _, _, rfl, by simpa using g3, fun e' he' => hrem e' (List.mem_cons_of_mem _ he')⟩
    · rintro η S ⟨M', u4, u5, u6, u7, rfl, h8, _⟩
      exact ⟨_, _, _, _, _, _, _, rfl, h8⟩
    · intro e he
      have a1 : T R1 15 b1 := by
        have := (hb1.app (M2 ++ M3 ++ [O.lst [t, b1, b2, o]])).mono (show 9 + 6 ≤ 15 by decide)
        rw [← hR]; simpa using this
      have a2 : T R1 15 b2 := by
        have := (hb2.app (M3 ++ [O.lst [t, b1, b2, o]])).mono (show 9 + 6 ≤ 15 by decide)
        rw [← hR]; simpa using this
      have a3 : T R1 15 o := by
        have := (ho.app ([O.lst [t, b1, b2, o]])).mono (show 6 ≤ 15 by decide)
        rw [← hR]; simpa using this
      simp only [List.mem_cons, List.mem_nil_iff, or_false] at he
      rcases he with rfl | rfl | rfl | rfl
      · exact hTt _
      · exact a1
      · exact a2
      · exact a3
  · rintro η S ⟨R, v2, v3, v4, v5, v6, v7, rfl, h1⟩
    walk_at "wx"
    refine ⟨2, rfl, by decide, by decide, ?_⟩
    refine w_forF (src := []) (fun rem η S => ∃ R v2 v3 v4 v5 v6 v7, η = [some sc, some (.ref 2), v2, v3, v4, v5, v6, v7] ∧ Hd C S R) (fun _ _ _ _ => trivial) ?_ ?_ ⟨R, _, _, _, _, _, _, rfl, h1⟩
    · rintro x rem η S ⟨R, v2, v3, v4, v5, v6, v7, rfl, h1⟩
      refine ⟨_, rfl, ?_⟩
      walk_at "wx"
      refine great_ok h1 fun d M S2 n hd h2 => ?_
      have hT : ∀ R', T R' n d := fun R' => hd.T (Nat.le_refl _)
      refine bounded_ok (hT _) h2 fun M2 S3 h3 => ?_
      walk_at "isi"
      refine lawterm_ok (hT _) h3 fun M3 S4 h4 => ?_
      walk_at "ops"
      rw [show (J d == J d) = true from by simp]
      walk_at "isi"
      exact ⟨_, _, _, _, _, _, _, rfl, h4⟩
    · rintro η S ⟨R, v2, v3, v4, v5, v6, v7, rfl, h1⟩
      walk_at "wx"
theorem plain (ns : List Int) : ∃ S, f_law [.fro (ns.map D.int)] [] = .ok (.bl true) S := by
  obtain ⟨d, S, e, rfl⟩ := wR_get (law_ok ns)
  exact ⟨S, e⟩
end K01

set_option Elab.async false
set_option linter.all false
set_option maxRecDepth 100000
set_option maxHeartbeats 4000000
namespace K01
open PySem PySem.Spec L2 DL
open PyProof.Rows hiding St
/-! each def does what its function does (printed by gen.py) -/
def top (i : Nat) : Stmt := PySem.Challenge.pw_townpost_k01_terms_judged.main.body.getD i (.Pass ⟨0, 0, 0, 0⟩)
structure Glob (K : PySem.W.Frag) (mg : Str → Option Value) (cls : Nat → Addr) : Prop where
  n_abs : mg "abs" = none
  n_all : mg "all" = none
  n_bool : mg "bool" = none
  n_int : mg "int" = none
  n_isinstance : mg "isinstance" = none
  n_len : mg "len" = none
  n_list : mg "list" = none
  n_min : mg "min" = none
  n_range : mg "range" = none
  n_str : mg "str" = none
  n_tuple : mg "tuple" = none
  c_LEAST_OWNER : ∃ t, mg "LEAST_OWNER" = some (.int 10 t)
  c_LEAST_SEAL : ∃ t, mg "LEAST_SEAL" = some (.int 100 t)
  c_MOST_DEEP : ∃ t, mg "MOST_DEEP" = some (.int 30 t)
  c_MOST_KEY : ∃ t, mg "MOST_KEY" = some (.int 999 t)
  c_MOST_NODES : ∃ t, mg "MOST_NODES" = some (.int 9 t)
  c_MOST_NUMBER : ∃ t, mg "MOST_NUMBER" = some (.int 999999999999 t)
  c_MOST_PARTS : ∃ t, mg "MOST_PARTS" = some (.int 5000 t)
  c_MOST_ROW : ∃ t, mg "MOST_ROW" = some (.int 60 t)
  c_MOST_SECRET : ∃ t, mg "MOST_SECRET" = some (.int 999999999 t)
  c_MOST_SIGNS : ∃ t, mg "MOST_SIGNS" = some (.int 40 t)
  c_MOST_WIRES : ∃ t, mg "MOST_WIRES" = some (.int 20 t)
  c_SEALED : ∃ t, mg "SEALED" = some (.str "sealed" t)
  c_SECRET : ∃ t, mg "SECRET" = some (.str "secret" t)
  c_SIGNED : ∃ t, mg "SIGNED" = some (.str "signed" t)
  g_Town : mg "Town" = some (.ref (cls 0))
  cl0 : Cls K (cls 0)
  hO0 : ∀ c, c < 1 → PySem.W.kitOne K (.ref (cls c)) (.ref (cls 0)) = some (c == 0)
  hk0 : ∀ a ∈ kinds, PySem.W.kitOne K (.type a) (.ref (cls 0)) = some false
  hI : ∀ c, c < 1 → InsOk K (cls c)
  hK_bool : ∀ c, c < 1 → PySem.W.kitOne K (.ref (cls c)) (.type "bool") = some false
  hK_int : ∀ c, c < 1 → PySem.W.kitOne K (.ref (cls c)) (.type "int") = some false
  hK_list : ∀ c, c < 1 → PySem.W.kitOne K (.ref (cls c)) (.type "list") = some false
  hK_str : ∀ c, c < 1 → PySem.W.kitOne K (.ref (cls c)) (.type "str") = some false
  hK_tuple : ∀ c, c < 1 → PySem.W.kitOne K (.ref (cls c)) (.type "tuple") = some false
  na_loss : ∀ c ∈ [0], Cls K (cls c) ∧ NoAttr K (cls c) "loss"
  na_most : ∀ c ∈ [0], Cls K (cls c) ∧ NoAttr K (cls c) "most"
  na_nodes : ∀ c ∈ [0], Cls K (cls c) ∧ NoAttr K (cls c) "nodes"
  na_root : ∀ c ∈ [0], Cls K (cls c) ∧ NoAttr K (cls c) "root"
  na_wires : ∀ c ∈ [0], Cls K (cls c) ∧ NoAttr K (cls c) "wires"
  d_Town_all_parts : ∃ f fd, FunD K "all_parts" "Town.all_parts" (defArgs (inClass (top 32) 1)) (defBody (inClass (top 32) 1)) (defScope (inClass (top 32) 1)) [] [] f fd ∧ Meth K (cls 0) "all_parts" f
  d_Town_eq : ∃ f fd, FunD K "__eq__" "Town.__eq__" (defArgs (inClass (top 32) 2)) (defBody (inClass (top 32) 2)) (defScope (inClass (top 32) 2)) [] [] f fd ∧ EqOk K (cls 0) f
  d__law_draw : ∃ f fd, FunD K "_law_draw" "_law_draw" (defArgs (top 35)) (defBody (top 35)) (defScope (top 35)) [] [] f fd ∧ mg "_law_draw" = some (.ref f)
  d_is_tuple_of : ∃ f fd, FunD K "is_tuple_of" "is_tuple_of" (defArgs (top 3)) (defBody (top 3)) (defScope (top 3)) [] [] f fd ∧ mg "is_tuple_of" = some (.ref f)
  d_is_integer : ∃ f fd, FunD K "is_integer" "is_integer" (defArgs (top 1)) (defBody (top 1)) (defScope (top 1)) [] [] f fd ∧ mg "is_integer" = some (.ref f)
  d_is_within : ∃ f fd, FunD K "is_within" "is_within" (defArgs (top 2)) (defBody (top 2)) (defScope (top 2)) [] [] f fd ∧ mg "is_within" = some (.ref f)
  d_are_wires : ∃ f fd, FunD K "are_wires" "are_wires" (defArgs (top 31)) (defBody (top 31)) (defScope (top 31)) [] [] f fd ∧ mg "are_wires" = some (.ref f)
  d_is_owner : ∃ f fd, FunD K "is_owner" "is_owner" (defArgs (top 30)) (defBody (top 30)) (defScope (top 30)) [] [] f fd ∧ mg "is_owner" = some (.ref f)
  d_Town_init : ∃ f fd, FunD K "__init__" "Town.__init__" (defArgs (inClass (top 32) 0)) (defBody (inClass (top 32) 0)) (defScope (inClass (top 32) 0)) [] [] f fd ∧ Mk K (cls 0) f
  d__law_some : ∃ f fd, FunD K "_law_some" "_law_some" (defArgs (top 36)) (defBody (top 36)) (defScope (top 36)) [] [] f fd ∧ mg "_law_some" = some (.ref f)
  d__law_odd : ∃ f fd, FunD K "_law_odd" "_law_odd" (defArgs (top 47)) (defBody (top 47)) (defScope (top 47)) [] [] f fd ∧ mg "_law_odd" = some (.ref f)
  d__law_bent : ∃ f fd, FunD K "_law_bent" "_law_bent" (defArgs (top 48)) (defBody (top 48)) (defScope (top 48)) [] [] f fd ∧ mg "_law_bent" = some (.ref f)
  d__law_copied : ∃ f fd, FunD K "_law_copied" "_law_copied" (defArgs (top 50)) (defBody (top 50)) (defScope (top 50)) [] [] f fd ∧ mg "_law_copied" = some (.ref f)
  d__law_sized : ∃ f fd, FunD K "_law_sized" "_law_sized" (defArgs (top 46)) (defBody (top 46)) (defScope (top 46)) [] [] f fd ∧ mg "_law_sized" = some (.ref f)
  d__law_key : ∃ f fd, FunD K "_law_key" "_law_key" (defArgs (top 43)) (defBody (top 43)) (defScope (top 43)) [] [] f fd ∧ mg "_law_key" = some (.ref f)
  d__law_word_drawn : ∃ f fd, FunD K "_law_word_drawn" "_law_word_drawn" (defArgs (top 41)) (defBody (top 41)) (defScope (top 41)) [] [] f fd ∧ mg "_law_word_drawn" = some (.ref f)
  d__law_leaf : ∃ f fd, FunD K "_law_leaf" "_law_leaf" (defArgs (top 42)) (defBody (top 42)) (defScope (top 42)) [] [] f fd ∧ mg "_law_leaf" = some (.ref f)
  d__law_term : ∃ f fd, FunD K "_law_term" "_law_term" (defArgs (top 44)) (defBody (top 44)) (defScope (top 44)) [] [] f fd ∧ mg "_law_term" = some (.ref f)
  d__law_tower : ∃ f fd, FunD K "_law_tower" "_law_tower" (defArgs (top 45)) (defBody (top 45)) (defScope (top 45)) [] [] f fd ∧ mg "_law_tower" = some (.ref f)
  d__law_great : ∃ f fd, FunD K "_law_great" "_law_great" (defArgs (top 49)) (defBody (top 49)) (defScope (top 49)) [] [] f fd ∧ mg "_law_great" = some (.ref f)
  d__law_hand : ∃ f fd, FunD K "_law_hand" "_law_hand" (defArgs (top 34)) (defBody (top 34)) (defScope (top 34)) [] [] f fd ∧ mg "_law_hand" = some (.ref f)
  d__law_is_number : ∃ f fd, FunD K "_law_is_number" "_law_is_number" (defArgs (top 37)) (defBody (top 37)) (defScope (top 37)) [] [] f fd ∧ mg "_law_is_number" = some (.ref f)
  d__law_kind : ∃ f fd, FunD K "_law_kind" "_law_kind" (defArgs (top 38)) (defBody (top 38)) (defScope (top 38)) [] [] f fd ∧ mg "_law_kind" = some (.ref f)
  d__law_within : ∃ f fd, FunD K "_law_within" "_law_within" (defArgs (top 39)) (defBody (top 39)) (defScope (top 39)) [] [] f fd ∧ mg "_law_within" = some (.ref f)
  d__law_is_term : ∃ f fd, FunD K "_law_is_term" "_law_is_term" (defArgs (top 40)) (defBody (top 40)) (defScope (top 40)) [] [] f fd ∧ mg "_law_is_term" = some (.ref f)
  d_head_word : ∃ f fd, FunD K "head_word" "head_word" (defArgs (top 20)) (defBody (top 20)) (defScope (top 20)) [] [] f fd ∧ mg "head_word" = some (.ref f)
  d_inner_of : ∃ f fd, FunD K "inner_of" "inner_of" (defArgs (top 22)) (defBody (top 22)) (defScope (top 22)) [] [] f fd ∧ mg "inner_of" = some (.ref f)
  d_is_string : ∃ f fd, FunD K "is_string" "is_string" (defArgs (top 18)) (defBody (top 18)) (defScope (top 18)) [] [] f fd ∧ mg "is_string" = some (.ref f)
  d_is_bare : ∃ f fd, FunD K "is_bare" "is_bare" (defArgs (top 19)) (defBody (top 19)) (defScope (top 19)) [] [] f fd ∧ mg "is_bare" = some (.ref f)
  d_is_shaped : ∃ f fd, FunD K "is_shaped" "is_shaped" (defArgs (top 21)) (defBody (top 21)) (defScope (top 21)) [] [] f fd ∧ mg "is_shaped" = some (.ref f)
  d_is_bounded : ∃ f fd, FunD K "is_bounded" "is_bounded" (defArgs (top 23)) (defBody (top 23)) (defScope (top 23)) [] [] f fd ∧ mg "is_bounded" = some (.ref f)
  d_is_term : ∃ f fd, FunD K "is_term" "is_term" (defArgs (top 24)) (defBody (top 24)) (defScope (top 24)) [] [] f fd ∧ mg "is_term" = some (.ref f)
  d_law : ∃ f fd, FunD K "law" "law" (defArgs (top 51)) (defBody (top 51)) (defScope (top 51)) [] [] f fd ∧ mg "law" = some (.ref f)
section
variable {P : Program} {w : World} {K : PySem.W.Frag} {mg : Str → Option Value} {base : Heap} {cls : Nat → Addr}
abbrev s_Town_all_parts : Stmt := (inClass (top 32) 1)
theorem sc_Town_all_parts : FnScope ["self"] ["self"] (defScope s_Town_all_parts) := ⟨rfl, rfl, rfl, by decide +kernel, rfl, by decide +kernel, by decide +kernel⟩
theorem ok_Town_all_parts (Z : Glob K mg cls) : MtB P w K mg base cls 0 "all_parts" 1 1 f_Town_all_parts := by
  obtain ⟨f, fd, F, hm⟩ := Z.d_Town_all_parts
  refine mkMt F hm sc_Town_all_parts rfl rfl (FunD.bindsN (ps := ["self"]) F fun _ _ _ _ _ _ us hl => match us, hl with | [_], _ => rfl) fun cdv A outer s H E hr g => ?_
  have nd := sc_Town_all_parts.nd
  exact (ds_one (dps_ret (de_tup (da_cons (de_fld (Z.na_nodes) (de_var (pv 0)) (by rfl)) (da_cons (de_fld (Z.na_wires) (de_var (pv 0)) (by rfl)) (da_cons (de_fld (Z.na_loss) (de_var (pv 0)) (by rfl)) (da_cons (de_fld (Z.na_most) (de_var (pv 0)) (by rfl)) (da_cons (de_fld (Z.na_root) (de_var (pv 0)) (by rfl)) da_nil))))))))
abbrev s_Town_eq : Stmt := (inClass (top 32) 2)
theorem sc_Town_eq : FnScope ["self", "other"] ["self", "other"] (defScope s_Town_eq) := ⟨rfl, rfl, rfl, by decide +kernel, rfl, by decide +kernel, by decide +kernel⟩
theorem ok_Town_eq (Z : Glob K mg cls) : EqB P w K mg base cls 0 2 2 f_Town_eq := by
  obtain ⟨f, fd, F, hm⟩ := Z.d_Town_eq
  refine mkEq F hm sc_Town_eq rfl rfl (FunD.bindsN (ps := ["self", "other"]) F fun _ _ _ _ _ _ us hl => match us, hl with | [_, _], _ => rfl) fun cdv A outer s H E hr g => ?_
  have nd := sc_Town_eq.nd
  exact (ds_one (dps_ret (de_and (de_isO Z.hI Z.hO0 Z.hk0 (pe_callB call_isi (by rfl) Z.n_isinstance boot_isinstance (pa_cons (de_var (pv 1)) (pa_cons (pe_glob (v := .ref _) (by rfl) Z.g_Town rfl) pa_nil)))) (de_one (de_cmp (op_pEq (room_hu hr)) (de_mt0 ((ok_Town_all_parts Z).mono (by omega)) Z.cl0 hr g.pass (de_var (pv 0))) (de_mt0 ((ok_Town_all_parts Z).mono (by omega)) Z.cl0 hr g.pass (de_var (pv 1))) (nomark _))))))
abbrev s__law_draw : Stmt := (top 35)
theorem sc__law_draw : FnScope ["hand", "many", "cell", "digit", "number"] ["hand", "many"] (defScope s__law_draw) := ⟨rfl, rfl, rfl, by decide +kernel, rfl, by decide +kernel, by decide +kernel⟩
theorem ok__law_draw (Z : Glob K mg cls) : FnB P w K mg base cls "_law_draw" 1 2 f__law_draw := by
  obtain ⟨f, fd, F, hm⟩ := Z.d__law_draw
  refine mkFn F hm sc__law_draw rfl rfl (FunD.bindsN (ps := ["hand", "many"]) F fun _ _ _ _ _ _ us hl => match us, hl with | [_, _], _ => rfl) fun cdv A outer s H E hr g => ?_
  have nd := sc__law_draw.nd
  exact (ds_cons (dps_if (PW.pt (dw_and (dt_cmp (op_pEq (room_hu hr)) (de_ix (de_var (pv 0)) de_int (by intro _ _; rfl)) de_int (nomark _)) (dw_and1 (dt_cmp op_pLt (de_ix (de_var (pv 0)) de_int (by intro _ _; rfl)) (de_callB call_pLen (by rfl) Z.n_len boot_len (da_cons (de_ix (de_var (pv 0)) de_int (by intro _ _; rfl)) da_nil)) (nomark _))))) (ds_cons (dps_set (i := 2) nd rfl (by first | exact Or.inl rfl | exact Or.inr rfl) (de_ix (de_ix (de_var (pv 0)) de_int (by intro _ _; rfl)) (de_ix (de_var (pv 0)) de_int (by intro _ _; rfl)) (by intro _ _; rfl)))
   (ds_cons (dps_put (ps_asg (de_bin op_pAdd (de_ix (de_var (pv 0)) de_int (by intro _ _; rfl)) de_int) (pg_sub (de_var (pv 0)) de_int set_setL)))
   (ds_cons (dps_put (ps_asg (de_bin op_pMod (de_callTy call_pInt1 (by rfl) Z.n_int boot_int (da_cons (de_bin op_pAdd (de_bin op_pAdd (de_bin op_pMul (de_ix (de_var (pv 0)) de_int (by intro _ _; rfl)) de_int) (de_var (pv 2))) de_int) da_nil)) de_int) (pg_sub (de_var (pv 0)) de_int set_setL)))
   (ds_one (dps_if (dt_cmp op_pGe (de_var (pv 2)) (de_bin op_pPow de_int de_int) (nomark _)) (ds_one (dps_put (ps_asg (de_var (pv 2)) (pg_sub (de_var (pv 0)) de_int set_setL)))) ds_nil))))) ds_nil)
  (ds_cons (dps_if (dt_cmp op_pGt (de_ix (de_var (pv 0)) de_int (by intro _ _; rfl)) de_int (nomark _)) (ds_cons (dps_set (i := 3) nd rfl (by first | exact Or.inl rfl | exact Or.inr rfl) (de_bin op_pMod (de_callTy call_pInt1 (by rfl) Z.n_int boot_int (da_cons (de_ix (de_var (pv 0)) de_int (by intro _ _; rfl)) da_nil)) (de_var (pv 1))))
   (ds_cons (dps_put (ps_asg (de_bin op_pFDiv (de_ix (de_var (pv 0)) de_int (by intro _ _; rfl)) (de_var (pv 1))) (pg_sub (de_var (pv 0)) de_int set_setL)))
   (ds_one (dps_ret (de_var (pv 3)))))) ds_nil)
  (ds_cons (dps_put (ps_asg (de_bin op_pAdd (de_ix (de_var (pv 0)) de_int (by intro _ _; rfl)) de_int) (pg_sub (de_var (pv 0)) de_int set_setL)))
  (ds_cons (dps_set (i := 4) nd rfl (by first | exact Or.inl rfl | exact Or.inr rfl) (de_bin op_pMod (de_callTy call_pInt1 (by rfl) Z.n_int boot_int (da_cons (de_bin op_pMul (de_bin op_pAdd (de_ix (de_var (pv 0)) de_int (by intro _ _; rfl)) (de_bin op_pMul de_int (de_ix (de_var (pv 0)) de_int (by intro _ _; rfl)))) de_int) da_nil)) de_int))
  (ds_cons (dps_set (i := 4) nd rfl (by first | exact Or.inl rfl | exact Or.inr rfl) (de_bin op_pMod (de_callTy call_pInt1 (by rfl) Z.n_int boot_int (da_cons (de_bin op_pMul (de_var (pv 4)) (de_bin op_pAdd (de_bin op_pFDiv (de_var (pv 4)) de_int) de_int)) da_nil)) de_int))
  (ds_cons (dps_set (i := 4) nd rfl (by first | exact Or.inl rfl | exact Or.inr rfl) (de_bin op_pMod (de_callTy call_pInt1 (by rfl) Z.n_int boot_int (da_cons (de_bin op_pMul (de_var (pv 4)) (de_bin op_pAdd (de_bin op_pFDiv (de_var (pv 4)) de_int) de_int)) da_nil)) de_int))
  (ds_one (dps_ret (de_bin op_pMod (de_callTy call_pInt1 (by rfl) Z.n_int boot_int (da_cons (de_bin op_pFDiv (de_var (pv 4)) de_int) da_nil)) (de_var (pv 1)))))))))))
abbrev s_is_tuple_of : Stmt := (top 3)
theorem sc_is_tuple_of : FnScope ["thing", "size"] ["thing", "size"] (defScope s_is_tuple_of) := ⟨rfl, rfl, rfl, by decide +kernel, rfl, by decide +kernel, by decide +kernel⟩
theorem ok_is_tuple_of (Z : Glob K mg cls) : FnB P w K mg base cls "is_tuple_of" 1 2 f_is_tuple_of := by
  obtain ⟨f, fd, F, hm⟩ := Z.d_is_tuple_of
  refine mkFn F hm sc_is_tuple_of rfl rfl (FunD.bindsN (ps := ["thing", "size"]) F fun _ _ _ _ _ _ us hl => match us, hl with | [_, _], _ => rfl) fun cdv A outer s H E hr g => ?_
  have nd := sc_is_tuple_of.nd
  exact (ds_one (dps_ret (de_and (de_isi Z.hI Z.hK_tuple (by decide +kernel) (pe_callB call_isi (by rfl) Z.n_isinstance boot_isinstance (pa_cons (de_var (pv 0)) (pa_cons (pe_bltn (v := .ty "tuple") (by rfl) Z.n_tuple boot_tuple rfl) pa_nil))) rfl) (de_one (de_cmp (op_pEq (room_hu hr)) (de_callB call_pLen (by rfl) Z.n_len boot_len (da_cons (de_var (pv 0)) da_nil)) (de_var (pv 1)) (nomark _))))))
abbrev s_is_integer : Stmt := (top 1)
theorem sc_is_integer : FnScope ["thing"] ["thing"] (defScope s_is_integer) := ⟨rfl, rfl, rfl, by decide +kernel, rfl, by decide +kernel, by decide +kernel⟩
theorem ok_is_integer (Z : Glob K mg cls) : FnB P w K mg base cls "is_integer" 1 1 f_is_integer := by
  obtain ⟨f, fd, F, hm⟩ := Z.d_is_integer
  refine mkFn F hm sc_is_integer rfl rfl (FunD.bindsN (ps := ["thing"]) F fun _ _ _ _ _ _ us hl => match us, hl with | [_], _ => rfl) fun cdv A outer s H E hr g => ?_
  have nd := sc_is_integer.nd
  exact (ds_one (dps_ret (de_and (de_isi Z.hI Z.hK_int (by decide +kernel) (pe_callB call_isi (by rfl) Z.n_isinstance boot_isinstance (pa_cons (de_var (pv 0)) (pa_cons (pe_bltn (v := .ty "int") (by rfl) Z.n_int boot_int rfl) pa_nil))) rfl) (de_one (de_not (de_isi Z.hI Z.hK_bool (by decide +kernel) (pe_callB call_isi (by rfl) Z.n_isinstance boot_isinstance (pa_cons (de_var (pv 0)) (pa_cons (pe_bltn (v := .ty "bool") (by rfl) Z.n_bool boot_bool rfl) pa_nil))) rfl))))))
abbrev s_is_within : Stmt := (top 2)
theorem sc_is_within : FnScope ["thing", "least", "most"] ["thing", "least", "most"] (defScope s_is_within) := ⟨rfl, rfl, rfl, by decide +kernel, rfl, by decide +kernel, by decide +kernel⟩
theorem ok_is_within (Z : Glob K mg cls) : FnB P w K mg base cls "is_within" 2 3 f_is_within := by
  obtain ⟨f, fd, F, hm⟩ := Z.d_is_within
  refine mkFn F hm sc_is_within rfl rfl (FunD.bindsN (ps := ["thing", "least", "most"]) F fun _ _ _ _ _ _ us hl => match us, hl with | [_, _, _], _ => rfl) fun cdv A outer s H E hr g => ?_
  have nd := sc_is_within.nd
  exact (ds_one (dps_ret (de_and (de_fn ((ok_is_integer Z).mono (by omega)) hr g.pass (da_cons (de_var (pv 0)) da_nil) (by rfl)) (de_one (de_chain op_pLe op_pLe (de_var (pv 1)) (de_var (pv 0)) (de_var (pv 2)))))))
abbrev s_are_wires : Stmt := (top 31)
theorem sc_are_wires : FnScope ["thing", "nodes", "pair"] ["thing", "nodes"] (defScope s_are_wires) := ⟨rfl, rfl, rfl, by decide +kernel, rfl, by decide +kernel, by decide +kernel⟩
theorem ok_are_wires (Z : Glob K mg cls) : FnB P w K mg base cls "are_wires" 3 2 f_are_wires := by
  obtain ⟨f, fd, F, hm⟩ := Z.d_are_wires
  refine mkFn F hm sc_are_wires rfl rfl (FunD.bindsN (ps := ["thing", "nodes"]) F fun _ _ _ _ _ _ us hl => match us, hl with | [_, _], _ => rfl) fun cdv A outer s H E hr g => ?_
  have nd := sc_are_wires.nd
  exact (ds_cons (dps_if (PW.pt (dw_or (dt_not (dt_val (de_isi Z.hI Z.hK_tuple (by decide +kernel) (pe_callB call_isi (by rfl) Z.n_isinstance boot_isinstance (pa_cons (de_var (pv 0)) (pa_cons (pe_bltn (v := .ty "tuple") (by rfl) Z.n_tuple boot_tuple rfl) pa_nil))) rfl))) (dw_or1 (dt_cmp op_pGt (de_callB call_pLen (by rfl) Z.n_len boot_len (da_cons (de_var (pv 0)) da_nil)) (de_gint Z.c_MOST_WIRES (by rfl)) (nomark _))))) (ds_one (dps_ret de_bl)) ds_nil)
  (ds_cons (dps_for (g := (.nm 2)) (ps_for g.own rfl (di_seq (de_var (pv 0))) (pg_name (i := 2) nd rfl (by first | exact Or.inl rfl | exact Or.inr rfl)) (ds_cons (dps_if (PW.pt (dw_or (dt_not (dt_val (de_fn ((ok_is_tuple_of Z).mono (by omega)) hr g.pass (da_cons (de_var (pv 2)) (da_cons de_int da_nil)) (by rfl)))) (dw_or (dt_not (dt_val (de_fn ((ok_is_within Z).mono (by omega)) hr g.pass (da_cons (de_ix (de_var (pv 2)) de_int (by intro _ _; rfl)) (da_cons de_int (da_cons (de_bin op_pSub (de_var (pv 1)) de_int) da_nil))) (by rfl)))) (dw_or1 (dt_not (dt_val (de_fn ((ok_is_within Z).mono (by omega)) hr g.pass (da_cons (de_ix (de_var (pv 2)) de_int (by intro _ _; rfl)) (da_cons de_int (da_cons (de_bin op_pSub (de_var (pv 1)) de_int) da_nil))) (by rfl)))))))) (ds_one (dps_ret de_bl)) ds_nil)
   (ds_one (dps_if (dt_cmp op_pGe (de_ix (de_var (pv 2)) de_int (by intro _ _; rfl)) (de_ix (de_var (pv 2)) de_int (by intro _ _; rfl)) (nomark _)) (ds_one (dps_ret de_bl)) ds_nil)))))
  (ds_one (dps_ret de_bl))))
abbrev s_is_owner : Stmt := (top 30)
theorem sc_is_owner : FnScope ["thing"] ["thing"] (defScope s_is_owner) := ⟨rfl, rfl, rfl, by decide +kernel, rfl, by decide +kernel, by decide +kernel⟩
theorem ok_is_owner (Z : Glob K mg cls) : FnB P w K mg base cls "is_owner" 3 1 f_is_owner := by
  obtain ⟨f, fd, F, hm⟩ := Z.d_is_owner
  refine mkFn F hm sc_is_owner rfl rfl (FunD.bindsN (ps := ["thing"]) F fun _ _ _ _ _ _ us hl => match us, hl with | [_], _ => rfl) fun cdv A outer s H E hr g => ?_
  have nd := sc_is_owner.nd
  exact (ds_one (dps_ret (de_fn ((ok_is_within Z).mono (by omega)) hr g.pass (da_cons (de_var (pv 0)) (da_cons (de_gint Z.c_LEAST_OWNER (by rfl)) (da_cons (de_bin op_pSub (de_gint Z.c_LEAST_SEAL (by rfl)) de_int) da_nil))) (by rfl))))
abbrev s_Town_init : Stmt := (inClass (top 32) 0)
theorem sc_Town_init : FnScope ["self", "nodes", "wires", "loss", "most", "root"] ["self", "nodes", "wires", "loss", "most", "root"] (defScope s_Town_init) := ⟨rfl, rfl, rfl, by decide +kernel, rfl, by decide +kernel, by decide +kernel⟩
theorem ok_Town_init (Z : Glob K mg cls) : MkB P w K mg base cls "Town" 0 4 6 f_Town_init := by
  obtain ⟨f, fd, F, hm⟩ := Z.d_Town_init
  refine mkMk Z.g_Town F hm sc_Town_init rfl rfl (FunD.bindsN (ps := ["self", "nodes", "wires", "loss", "most", "root"]) F fun _ _ _ _ _ _ us hl => match us, hl with | [_, _, _, _, _, _], _ => rfl) fun cdv A outer s H E hr g => ?_
  have nd := sc_Town_init.nd
  exact (ds_cons (dps_if (dt_not (dt_val (de_fn ((ok_is_within Z).mono (by omega)) hr g.pass (da_cons (de_var (pv 1)) (da_cons de_int (da_cons (de_gint Z.c_MOST_NODES (by rfl)) da_nil))) (by rfl)))) (ds_one dps_never) ds_nil)
  (ds_cons (dps_if (dt_not (dt_val (de_fn ((ok_are_wires Z).mono (by omega)) hr g.pass (da_cons (de_var (pv 2)) (da_cons (de_var (pv 1)) da_nil)) (by rfl)))) (ds_one dps_never) ds_nil)
  (ds_cons (dps_if (dt_not (dt_val (de_fn ((ok_is_within Z).mono (by omega)) hr g.pass (da_cons (de_var (pv 3)) (da_cons de_int (da_cons de_int da_nil))) (by rfl)))) (ds_one dps_never) ds_nil)
  (ds_cons (dps_if (dt_not (dt_val (de_fn ((ok_is_within Z).mono (by omega)) hr g.pass (da_cons (de_var (pv 4)) (da_cons de_int (da_cons de_int da_nil))) (by rfl)))) (ds_one dps_never) ds_nil)
  (ds_cons (dps_if (dt_not (dt_val (de_fn ((ok_is_owner Z).mono (by omega)) hr g.pass (da_cons (de_var (pv 5)) da_nil) (by rfl)))) (ds_one dps_never) ds_nil)
  (ds_cons (dps_fld Z.na_nodes (ps_fld (de_var (pv 0)) (de_var (pv 1)) (by rfl)))
  (ds_cons (dps_fld Z.na_wires (ps_fld (de_var (pv 0)) (de_var (pv 2)) (by rfl)))
  (ds_cons (dps_fld Z.na_loss (ps_fld (de_var (pv 0)) (de_var (pv 3)) (by rfl)))
  (ds_cons (dps_fld Z.na_most (ps_fld (de_var (pv 0)) (de_var (pv 4)) (by rfl)))
  (ds_one (dps_fld Z.na_root (ps_fld (de_var (pv 0)) (de_var (pv 5)) (by rfl)))))))))))))
abbrev s__law_some : Stmt := (top 36)
theorem sc__law_some : FnScope ["hand", "things"] ["hand", "things"] (defScope s__law_some) := ⟨rfl, rfl, rfl, by decide +kernel, rfl, by decide +kernel, by decide +kernel⟩
theorem ok__law_some (Z : Glob K mg cls) : FnB P w K mg base cls "_law_some" 2 2 f__law_some := by
  obtain ⟨f, fd, F, hm⟩ := Z.d__law_some
  refine mkFn F hm sc__law_some rfl rfl (FunD.bindsN (ps := ["hand", "things"]) F fun _ _ _ _ _ _ us hl => match us, hl with | [_, _], _ => rfl) fun cdv A outer s H E hr g => ?_
  have nd := sc__law_some.nd
  exact (ds_one (dps_ret (de_ix (de_var (pv 1)) (de_fn ((ok__law_draw Z).mono (by omega)) hr g.pass (da_cons (de_var (pv 0)) (da_cons (de_callB call_pLen (by rfl) Z.n_len boot_len (da_cons (de_var (pv 1)) da_nil)) da_nil)) (by rfl)) (by intro _ _; rfl))))
abbrev s__law_odd : Stmt := (top 47)
theorem sc__law_odd : FnScope ["hand", "town", "some"] ["hand"] (defScope s__law_odd) := ⟨rfl, rfl, rfl, by decide +kernel, rfl, by decide +kernel, by decide +kernel⟩
theorem ok__law_odd (Z : Glob K mg cls) : FnB P w K mg base cls "_law_odd" 6 1 f__law_odd := by
  obtain ⟨f, fd, F, hm⟩ := Z.d__law_odd
  refine mkFn F hm sc__law_odd rfl rfl (FunD.bindsN (ps := ["hand"]) F fun _ _ _ _ _ _ us hl => match us, hl with | [_], _ => rfl) fun cdv A outer s H E hr g => ?_
  have nd := sc__law_odd.nd
  exact (ds_cons (dps_set (i := 1) nd rfl (by first | exact Or.inl rfl | exact Or.inr rfl) (de_mk ((ok_Town_init Z).mono (Nat.le_refl _)) (hr.mono (by omega)) g.pass (da_cons de_int (da_cons (de_tup da_nil) (da_cons de_int (da_cons de_int (da_cons de_int da_nil))))) (by rfl)))
  (ds_cons (dps_set (i := 2) nd rfl (by first | exact Or.inl rfl | exact Or.inr rfl) (de_lst (da_cons (de_un un_pNeg de_int) (da_cons de_bl (da_cons de_bl (da_cons (de_bin op_pPow de_int de_int) (da_cons (de_bin op_pPow de_int de_int) (da_cons (de_bin op_pMul de_str de_int) (da_cons (de_bin op_pMul de_str de_int) (da_cons de_str (da_cons (de_lst da_nil) (da_cons (de_lst (da_cons de_int da_nil)) (da_cons de_dnew (da_cons (de_disp1 pe_int de_int) (da_cons (de_var (pv 1)) (da_cons (de_tup (da_cons de_str da_nil)) da_nil))))))))))))))))
  (ds_cons (dps_set (i := 2) nd rfl (by first | exact Or.inl rfl | exact Or.inr rfl) (de_bin op_pAdd (de_var (pv 2)) (de_lst (da_cons (de_tup (da_cons de_str (da_cons (de_un un_pNeg de_int) da_nil))) (da_cons (de_tup (da_cons de_str (da_cons (de_bin op_pPow de_int de_int) da_nil))) (da_cons (de_tup (da_cons de_str (da_cons de_bl da_nil))) da_nil))))))
  (ds_cons (dps_set (i := 2) nd rfl (by first | exact Or.inl rfl | exact Or.inr rfl) (de_bin op_pAdd (de_var (pv 2)) (de_lst (da_cons (de_tup (da_cons de_str (da_cons de_str da_nil))) (da_cons (de_tup (da_cons de_str (da_cons de_int (da_cons de_int da_nil)))) (da_cons (de_tup (da_cons de_str da_nil)) da_nil))))))
  (ds_cons (dps_set (i := 2) nd rfl (by first | exact Or.inl rfl | exact Or.inr rfl) (de_bin op_pAdd (de_var (pv 2)) (de_lst (da_cons (de_tup (da_cons de_str (da_cons de_int da_nil))) (da_cons (de_tup (da_cons de_str (da_cons de_int (da_cons de_int da_nil)))) (da_cons (de_tup (da_cons de_str (da_cons (de_un un_pNeg de_int) (da_cons de_int da_nil)))) (da_cons (de_tup (da_cons de_str (da_cons de_str (da_cons de_int da_nil)))) (da_cons (de_tup (da_cons de_str (da_cons de_bl (da_cons de_int da_nil)))) da_nil))))))))
  (ds_cons (dps_set (i := 2) nd rfl (by first | exact Or.inl rfl | exact Or.inr rfl) (de_bin op_pAdd (de_var (pv 2)) (de_lst (da_cons (de_tup (da_cons de_str (da_cons de_int (da_cons de_int (da_cons de_int da_nil))))) (da_cons (de_tup (da_cons de_str (da_cons de_int (da_cons de_non da_nil)))) (da_cons (de_tup (da_cons de_str (da_cons de_int (da_cons (de_lst (da_cons de_int da_nil)) da_nil)))) (da_cons (de_tup (da_cons de_str (da_cons de_int (da_cons (de_var (pv 1)) da_nil)))) (da_cons (de_bin op_pMul (de_tup (da_cons de_int da_nil)) de_int) da_nil))))))))
  (ds_cons (dps_set (i := 2) nd rfl (by first | exact Or.inl rfl | exact Or.inr rfl) (de_bin op_pAdd (de_var (pv 2)) (de_lst (da_cons (de_bin op_pMul (de_tup (da_cons de_int da_nil)) de_int) (da_cons (de_tup (da_cons (de_lst da_nil) da_nil)) (da_cons (de_tup (da_cons (de_tup da_nil) (da_cons de_dnew da_nil))) (da_cons (de_tup (da_cons de_str (da_cons (de_tup (da_cons de_str (da_cons de_int da_nil))) da_nil))) (da_cons (de_tup (da_cons (de_tup (da_cons de_str (da_cons de_int da_nil))) (da_cons de_str da_nil))) (da_cons (de_lst (da_cons de_str (da_cons de_int da_nil))) (da_cons (de_tup da_nil) da_nil))))))))))
  (ds_cons (dps_set (i := 2) nd rfl (by first | exact Or.inl rfl | exact Or.inr rfl) (de_bin op_pAdd (de_var (pv 2)) (de_lst (da_cons de_str (da_cons (de_tup (da_cons de_str (da_cons de_non (da_cons de_int da_nil)))) (da_cons (de_tup (da_cons de_str (da_cons (de_tup (da_cons de_int da_nil)) (da_cons de_int da_nil)))) (da_cons (de_tup (da_cons de_non (da_cons de_bl da_nil))) (da_cons (de_tup (da_cons de_str (da_cons (de_un un_pNeg de_int) da_nil))) (da_cons (de_tup (da_cons de_str (da_cons de_int da_nil))) (da_cons (de_tup (da_cons de_int (da_cons (de_lst (da_cons de_int da_nil)) da_nil))) da_nil))))))))))
  (ds_one (dps_ret (de_fn ((ok__law_some Z).mono (by omega)) hr g.pass (da_cons (de_var (pv 0)) (da_cons (de_var (pv 2)) da_nil)) (by rfl))))))))))))
abbrev s__law_bent : Stmt := (top 48)
theorem sc__law_bent : FnScope ["hand", "term", "at", "how"] ["hand", "term"] (defScope s__law_bent) := ⟨rfl, rfl, rfl, by decide +kernel, rfl, by decide +kernel, by decide +kernel⟩
theorem ok__law_bent (Z : Glob K mg cls) : ∀ n, FnB P w K mg base cls "_law_bent" (6 + n) 2 (f__law_bent n)
  | 0 => by
    obtain ⟨f, fd, F, hm⟩ := Z.d__law_bent
    exact FnB.never hm F.kp (FunD.bindsN (ps := ["hand", "term"]) F fun _ _ _ _ _ _ us hl => match us, hl with | [_, _], _ => rfl) rfl
  | n + 1 => by
    have ih := ok__law_bent Z n
    obtain ⟨f, fd, F, hm⟩ := Z.d__law_bent
    refine mkFn (k := 6 + n) F hm sc__law_bent rfl rfl (FunD.bindsN (ps := ["hand", "term"]) F fun _ _ _ _ _ _ us hl => match us, hl with | [_, _], _ => rfl) fun cdv A outer s H E hr g => ?_
    have nd := sc__law_bent.nd
    exact (ds_cons (dps_if (PW.pt (dw_or (dt_not (dt_val (de_isi Z.hI Z.hK_tuple (by decide +kernel) (pe_callB call_isi (by rfl) Z.n_isinstance boot_isinstance (pa_cons (de_var (pv 1)) (pa_cons (pe_bltn (v := .ty "tuple") (by rfl) Z.n_tuple boot_tuple rfl) pa_nil))) rfl))) (dw_or (dt_cmp (op_pEq (room_hu hr)) (de_callB call_pLen (by rfl) Z.n_len boot_len (da_cons (de_var (pv 1)) da_nil)) de_int (nomark _)) (dw_or1 (dt_cmp (op_pEq (room_hu hr)) (de_fn ((ok__law_draw Z).mono (by omega)) hr g.pass (da_cons (de_var (pv 0)) (da_cons de_int da_nil)) (by rfl)) de_int (nomark _)))))) (ds_one (dps_ret (de_fn ((ok__law_odd Z).mono (by omega)) hr g.pass (da_cons (de_var (pv 0)) da_nil) (by rfl)))) ds_nil)
  (ds_cons (dps_par2 (ps_par (i := 2) (j := 3) rfl nd rfl rfl (by decide) rfl rfl (da_cons (de_fn ((ok__law_draw Z).mono (by omega)) hr g.pass (da_cons (de_var (pv 0)) (da_cons (de_callB call_pLen (by rfl) Z.n_len boot_len (da_cons (de_var (pv 1)) da_nil)) da_nil)) (by rfl)) (da_cons (de_fn ((ok__law_draw Z).mono (by omega)) hr g.pass (da_cons (de_var (pv 0)) (da_cons de_int da_nil)) (by rfl)) da_nil)) (by rfl)))
  (ds_cons (dps_if (dt_cmp (op_pEq (room_hu hr)) (de_var (pv 3)) de_int (nomark _)) (ds_one (dps_ret (de_fn ((ok__law_some Z).mono (by omega)) hr g.pass (da_cons (de_var (pv 0)) (da_cons (de_lst (da_cons (de_callTy (call_pListOf rfl) (by rfl) Z.n_list boot_list (da_cons (de_var (pv 1)) da_nil)) (da_cons (de_sl (de_var (pv 1)) (do_some de_int) do_none) (da_cons (de_bin op_pAdd (de_var (pv 1)) (de_sl (de_var (pv 1)) do_none (do_some de_int))) (da_cons (de_rev (de_var (pv 1))) (da_cons (de_bin op_pAdd (de_var (pv 1)) (de_tup (da_cons de_non da_nil))) da_nil)))))) da_nil)) (by rfl)))) ds_nil)
  (ds_one (dps_ret (de_bin op_pAdd (de_bin op_pAdd (de_sl (de_var (pv 1)) do_none (do_some (de_var (pv 2)))) (de_tup (da_cons (de_fn ih hr g.pass (da_cons (de_var (pv 0)) (da_cons (de_ix (de_var (pv 1)) (de_var (pv 2)) (by intro _ _; rfl)) da_nil)) (by rfl)) da_nil))) (de_sl (de_var (pv 1)) (do_some (de_bin op_pAdd (de_var (pv 2)) de_int)) do_none)))))))
abbrev s__law_copied : Stmt := (top 50)
theorem sc__law_copied : FnScope ["thing", "one"] ["thing"] (defScope s__law_copied) := ⟨rfl, rfl, rfl, by decide +kernel, rfl, by decide +kernel, by decide +kernel⟩
theorem ok__law_copied (Z : Glob K mg cls) : ∀ n, FnB P w K mg base cls "_law_copied" (0 + n) 1 (f__law_copied n)
  | 0 => by
    obtain ⟨f, fd, F, hm⟩ := Z.d__law_copied
    exact FnB.never hm F.kp (FunD.bindsN (ps := ["thing"]) F fun _ _ _ _ _ _ us hl => match us, hl with | [_], _ => rfl) rfl
  | n + 1 => by
    have ih := ok__law_copied Z n
    obtain ⟨f, fd, F, hm⟩ := Z.d__law_copied
    refine mkFn (k := 0 + n) F hm sc__law_copied rfl rfl (FunD.bindsN (ps := ["thing"]) F fun _ _ _ _ _ _ us hl => match us, hl with | [_], _ => rfl) fun cdv A outer s H E hr g => ?_
    have nd := sc__law_copied.nd
    exact (ds_cons (dps_if (dt_val (de_isi Z.hI Z.hK_list (by decide +kernel) (pe_callB call_isi (by rfl) Z.n_isinstance boot_isinstance (pa_cons (de_var (pv 0)) (pa_cons (pe_bltn (v := .ty "list") (by rfl) Z.n_list boot_list rfl) pa_nil))) rfl)) (ds_one (dps_ret (de_lc (g := (.nm 1)) (vs := [1]) (by decide) (pe_lc (own := [("one", 1)]) rfl nd (di_seq (de_var (pv 0))) (blkOk_by (by rfl)) (fun _ _ _ _ _ => (pg_name (i := 1) nd rfl (by first | exact Or.inl rfl | exact Or.inr rfl))) (fun _ _ _ _ _ => dts_nil) (fun _ _ _ _ _ => (de_fn ih hr passF (da_cons (de_var (pv 1)) da_nil) (by rfl))))))) ds_nil)
  (ds_one (dps_ret (de_if (dt_val (de_isi Z.hI Z.hK_tuple (by decide +kernel) (pe_callB call_isi (by rfl) Z.n_isinstance boot_isinstance (pa_cons (de_var (pv 0)) (pa_cons (pe_bltn (v := .ty "tuple") (by rfl) Z.n_tuple boot_tuple rfl) pa_nil))) rfl)) (de_callTy call_pTupOf (by rfl) Z.n_tuple boot_tuple (da_cons (de_lc (g := (.nm 1)) (vs := [1]) (by decide) (pe_lc (own := [("one", 1)]) rfl nd (di_seq (de_var (pv 0))) (blkOk_by (by rfl)) (fun _ _ _ _ _ => (pg_name (i := 1) nd rfl (by first | exact Or.inl rfl | exact Or.inr rfl))) (fun _ _ _ _ _ => dts_nil) (fun _ _ _ _ _ => (de_fn ih hr passF (da_cons (de_var (pv 1)) da_nil) (by rfl))))) da_nil)) (de_var (pv 0))))))
abbrev s__law_sized : Stmt := (top 46)
theorem sc__law_sized : FnScope ["many", "found", "left", "most"] ["many"] (defScope s__law_sized) := ⟨rfl, rfl, rfl, by decide +kernel, rfl, by decide +kernel, by decide +kernel⟩
theorem ok__law_sized (Z : Glob K mg cls) : ∀ n, FnB P w K mg base cls "_law_sized" (0 + n) 1 (f__law_sized n)
  | 0 => by
    obtain ⟨f, fd, F, hm⟩ := Z.d__law_sized
    exact FnB.never hm F.kp (FunD.bindsN (ps := ["many"]) F fun _ _ _ _ _ _ us hl => match us, hl with | [_], _ => rfl) rfl
  | n + 1 => by
    have ih := ok__law_sized Z n
    obtain ⟨f, fd, F, hm⟩ := Z.d__law_sized
    refine mkFn (k := 0 + n) F hm sc__law_sized rfl rfl (FunD.bindsN (ps := ["many"]) F fun _ _ _ _ _ _ us hl => match us, hl with | [_], _ => rfl) fun cdv A outer s H E hr g => ?_
    have nd := sc__law_sized.nd
    exact (ds_cons (dps_if (dt_cmp (op_pEq (room_hu hr)) (de_var (pv 0)) de_int (nomark _)) (ds_one (dps_ret de_int)) ds_nil)
  (ds_cons (dps_par3 (ps_par3 (i := 1) (j := 2) (l := 3) rfl nd rfl rfl rfl (by decide) (by decide) (by decide) rfl rfl rfl (da_cons (de_lst da_nil) (da_cons (de_bin op_pSub (de_var (pv 0)) de_int) (da_cons (de_if (dt_cmp op_pGt (de_var (pv 0)) de_int (nomark _)) de_int (de_if (dt_cmp op_pGt (de_var (pv 0)) de_int (nomark _)) de_int de_int)) da_nil))) (by rfl)))
  (ds_cons (dps_while (ps_while g.own (dt_cmp op_pGt (de_var (pv 2)) de_int (nomark _)) (ds_cons (dps_expr (de_bm (pe_bm PySem.F.plainAttrs_list PySem.F.slot_list_append PySem.F.type_list_append mt_dAppend (de_var (pv 1)) (da_cons (de_fn ih hr g.pass (da_cons (de_callB (call_pMin2 rfl) (by rfl) Z.n_min boot_min (da_cons (de_var (pv 2)) (da_cons (de_var (pv 3)) da_nil))) da_nil) (by rfl)) da_nil))))
   (ds_one (dps_set (i := 2) nd rfl (by first | exact Or.inl rfl | exact Or.inr rfl) (de_bin op_pSub (de_var (pv 2)) (de_callB (call_pMin2 rfl) (by rfl) Z.n_min boot_min (da_cons (de_var (pv 2)) (da_cons (de_var (pv 3)) da_nil)))))))))
  (ds_one (dps_ret (de_callTy call_pTupOf (by rfl) Z.n_tuple boot_tuple (da_cons (de_var (pv 1)) da_nil)))))))
abbrev s__law_key : Stmt := (top 43)
theorem sc__law_key : FnScope ["hand"] ["hand"] (defScope s__law_key) := ⟨rfl, rfl, rfl, by decide +kernel, rfl, by decide +kernel, by decide +kernel⟩
theorem ok__law_key (Z : Glob K mg cls) : FnB P w K mg base cls "_law_key" 3 1 f__law_key := by
  obtain ⟨f, fd, F, hm⟩ := Z.d__law_key
  refine mkFn F hm sc__law_key rfl rfl (FunD.bindsN (ps := ["hand"]) F fun _ _ _ _ _ _ us hl => match us, hl with | [_], _ => rfl) fun cdv A outer s H E hr g => ?_
  have nd := sc__law_key.nd
  exact (ds_one (dps_ret (de_fn ((ok__law_some Z).mono (by omega)) hr g.pass (da_cons (de_var (pv 0)) (da_cons (de_lst (da_cons de_int (da_cons de_int (da_cons de_int (da_cons de_int (da_cons de_int (da_cons de_int (da_cons de_int (da_cons de_int (da_cons de_int (da_cons de_int (da_cons de_int (da_cons de_int da_nil))))))))))))) da_nil)) (by rfl))))
abbrev s__law_word_drawn : Stmt := (top 41)
theorem sc__law_word_drawn : FnScope ["hand", "some", "many", "at"] ["hand"] (defScope s__law_word_drawn) := ⟨rfl, rfl, rfl, by decide +kernel, rfl, by decide +kernel, by decide +kernel⟩
theorem ok__law_word_drawn (Z : Glob K mg cls) : FnB P w K mg base cls "_law_word_drawn" 3 1 f__law_word_drawn := by
  obtain ⟨f, fd, F, hm⟩ := Z.d__law_word_drawn
  refine mkFn F hm sc__law_word_drawn rfl rfl (FunD.bindsN (ps := ["hand"]) F fun _ _ _ _ _ _ us hl => match us, hl with | [_], _ => rfl) fun cdv A outer s H E hr g => ?_
  have nd := sc__law_word_drawn.nd
  exact (ds_cons (dps_set (i := 1) nd rfl (by first | exact Or.inl rfl | exact Or.inr rfl) (de_lst (da_cons de_str (da_cons de_str (da_cons de_str (da_cons de_str (da_cons de_str (da_cons de_str (da_cons de_str (da_cons de_str (da_cons de_str (da_cons de_str (da_cons de_str (da_cons de_str (da_cons de_str (da_cons de_str da_nil))))))))))))))))
  (ds_cons (dps_set (i := 1) nd rfl (by first | exact Or.inl rfl | exact Or.inr rfl) (de_bin op_pAdd (de_var (pv 1)) (de_lst (da_cons de_str (da_cons de_str da_nil)))))
  (ds_cons (dps_if (dt_cmp op_pGt (de_fn ((ok__law_draw Z).mono (by omega)) hr g.pass (da_cons (de_var (pv 0)) (da_cons de_int da_nil)) (by rfl)) de_int (nomark _)) (ds_one (dps_ret (de_fn ((ok__law_some Z).mono (by omega)) hr g.pass (da_cons (de_var (pv 0)) (da_cons (de_var (pv 1)) da_nil)) (by rfl)))) ds_nil)
  (ds_cons (dps_set (i := 2) nd rfl (by first | exact Or.inl rfl | exact Or.inr rfl) (de_fn ((ok__law_some Z).mono (by omega)) hr g.pass (da_cons (de_var (pv 0)) (da_cons (de_lst (da_cons de_int (da_cons de_int (da_cons de_int da_nil)))) da_nil)) (by rfl)))
  (ds_one (dps_ret (de_bm (pe_bm PySem.F.plainAttrs_str PySem.F.slot_str_join PySem.F.type_str_join mt_dJoin de_str (da_cons (de_lc (g := (.nm 3)) (vs := [3]) (by decide) (pe_lc (own := [("at", 3)]) rfl nd (di_range1 (by rfl) Z.n_range (da_cons (de_var (pv 2)) da_nil)) (blkOk_by (by rfl)) (fun _ _ _ _ _ => (pg_name (i := 3) nd rfl (by first | exact Or.inl rfl | exact Or.inr rfl))) (fun _ _ _ _ _ => dts_nil) (fun _ _ _ _ _ => (de_fn ((ok__law_some Z).mono (by omega)) hr passF (da_cons (de_var (pv 0)) (da_cons (de_callTy (call_pListOf rfl) (by rfl) Z.n_list boot_list (da_cons de_str da_nil)) da_nil)) (by rfl))))) da_nil)))))))))
abbrev s__law_leaf : Stmt := (top 42)
theorem sc__law_leaf : FnScope ["hand", "how"] ["hand"] (defScope s__law_leaf) := ⟨rfl, rfl, rfl, by decide +kernel, rfl, by decide +kernel, by decide +kernel⟩
theorem ok__law_leaf (Z : Glob K mg cls) : FnB P w K mg base cls "_law_leaf" 4 1 f__law_leaf := by
  obtain ⟨f, fd, F, hm⟩ := Z.d__law_leaf
  refine mkFn F hm sc__law_leaf rfl rfl (FunD.bindsN (ps := ["hand"]) F fun _ _ _ _ _ _ us hl => match us, hl with | [_], _ => rfl) fun cdv A outer s H E hr g => ?_
  have nd := sc__law_leaf.nd
  exact (ds_cons (dps_set (i := 1) nd rfl (by first | exact Or.inl rfl | exact Or.inr rfl) (de_fn ((ok__law_draw Z).mono (by omega)) hr g.pass (da_cons (de_var (pv 0)) (da_cons de_int da_nil)) (by rfl)))
  (ds_cons (dps_if (dt_cmp op_pLt (de_var (pv 1)) de_int (nomark _)) (ds_one (dps_ret (de_fn ((ok__law_some Z).mono (by omega)) hr g.pass (da_cons (de_var (pv 0)) (da_cons (de_lst (da_cons de_int (da_cons de_int (da_cons de_int (da_cons de_int (da_cons de_int (da_cons de_int (da_cons de_int (da_cons de_int (da_cons de_int (da_cons (de_bin op_pPow de_int de_int) (da_cons (de_bin op_pSub (de_bin op_pPow de_int de_int) de_int) (da_cons (de_fn ((ok__law_draw Z).mono (by omega)) hr g.pass (da_cons (de_var (pv 0)) (da_cons (de_bin op_pPow de_int de_int) da_nil)) (by rfl)) da_nil))))))))))))) da_nil)) (by rfl)))) ds_nil)
  (ds_cons (dps_if (dt_cmp op_pLt (de_var (pv 1)) de_int (nomark _)) (ds_one (dps_ret (de_fn ((ok__law_word_drawn Z).mono (by omega)) hr g.pass (da_cons (de_var (pv 0)) da_nil) (by rfl)))) ds_nil)
  (ds_cons (dps_if (dt_cmp (op_pEq (room_hu hr)) (de_var (pv 1)) de_int (nomark _)) (ds_one (dps_ret de_non)) ds_nil)
  (ds_one (dps_ret (de_tup (da_cons de_str (da_cons (de_fn ((ok__law_some Z).mono (by omega)) hr g.pass (da_cons (de_var (pv 0)) (da_cons (de_lst (da_cons de_int (da_cons de_int (da_cons de_int (da_cons de_int (da_cons de_int (da_cons (de_bin op_pSub (de_bin op_pPow de_int de_int) de_int) da_nil))))))) da_nil)) (by rfl)) da_nil)))))))))
abbrev s__law_term : Stmt := (top 44)
theorem sc__law_term : FnScope ["hand", "deep", "how", "many", "found", "at"] ["hand", "deep"] (defScope s__law_term) := ⟨rfl, rfl, rfl, by decide +kernel, rfl, by decide +kernel, by decide +kernel⟩
theorem ok__law_term (Z : Glob K mg cls) : ∀ n, FnB P w K mg base cls "_law_term" (4 + n) 2 (f__law_term n)
  | 0 => by
    obtain ⟨f, fd, F, hm⟩ := Z.d__law_term
    exact FnB.never hm F.kp (FunD.bindsN (ps := ["hand", "deep"]) F fun _ _ _ _ _ _ us hl => match us, hl with | [_, _], _ => rfl) rfl
  | n + 1 => by
    have ih := ok__law_term Z n
    obtain ⟨f, fd, F, hm⟩ := Z.d__law_term
    refine mkFn (k := 4 + n) F hm sc__law_term rfl rfl (FunD.bindsN (ps := ["hand", "deep"]) F fun _ _ _ _ _ _ us hl => match us, hl with | [_, _], _ => rfl) fun cdv A outer s H E hr g => ?_
    have nd := sc__law_term.nd
    exact (ds_cons (dps_set (i := 2) nd rfl (by first | exact Or.inl rfl | exact Or.inr rfl) (de_fn ((ok__law_draw Z).mono (by omega)) hr g.pass (da_cons (de_var (pv 0)) (da_cons de_int da_nil)) (by rfl)))
  (ds_cons (dps_if (PW.pt (dw_or (dt_cmp op_pLt (de_var (pv 1)) de_int (nomark _)) (dw_or1 (dt_cmp op_pLt (de_var (pv 2)) de_int (nomark _))))) (ds_one (dps_ret (de_fn ((ok__law_leaf Z).mono (by omega)) hr g.pass (da_cons (de_var (pv 0)) da_nil) (by rfl)))) ds_nil)
  (ds_cons (dps_if (dt_cmp op_pLt (de_var (pv 2)) de_int (nomark _)) (ds_one (dps_ret (de_tup (da_cons de_str (da_cons (de_fn ((ok__law_key Z).mono (by omega)) hr g.pass (da_cons (de_var (pv 0)) da_nil) (by rfl)) (da_cons (de_fn ih hr g.pass (da_cons (de_var (pv 0)) (da_cons (de_bin op_pSub (de_var (pv 1)) de_int) da_nil)) (by rfl)) da_nil)))))) ds_nil)
  (ds_cons (dps_if (dt_cmp op_pLt (de_var (pv 2)) de_int (nomark _)) (ds_one (dps_ret (de_tup (da_cons de_str (da_cons (de_fn ((ok__law_key Z).mono (by omega)) hr g.pass (da_cons (de_var (pv 0)) da_nil) (by rfl)) (da_cons (de_fn ih hr g.pass (da_cons (de_var (pv 0)) (da_cons (de_bin op_pSub (de_var (pv 1)) de_int) da_nil)) (by rfl)) da_nil)))))) ds_nil)
  (ds_cons (dps_par2 (ps_par (i := 3) (j := 4) rfl nd rfl rfl (by decide) rfl rfl (da_cons (de_fn ((ok__law_some Z).mono (by omega)) hr g.pass (da_cons (de_var (pv 0)) (da_cons (de_lst (da_cons de_int (da_cons de_int (da_cons de_int (da_cons de_int (da_cons de_int (da_cons de_int (da_cons de_int da_nil)))))))) da_nil)) (by rfl)) (da_cons (de_lst da_nil) da_nil)) (by rfl)))
  (ds_cons (dps_for (g := (.nm 5)) (ps_for g.own rfl (di_range1 (by rfl) Z.n_range (da_cons (de_var (pv 3)) da_nil)) (pg_name (i := 5) nd rfl (by first | exact Or.inl rfl | exact Or.inr rfl)) (ds_one (dps_expr (de_bm (pe_bm PySem.F.plainAttrs_list PySem.F.slot_list_append PySem.F.type_list_append mt_dAppend (de_var (pv 4)) (da_cons (de_fn ih hr g.pass (da_cons (de_var (pv 0)) (da_cons (de_if (dt_cmp op_pLt (de_var (pv 5)) de_int (nomark _)) (de_bin op_pSub (de_var (pv 1)) de_int) de_int) da_nil)) (by rfl)) da_nil)))))))
  (ds_cons (dps_if (PW.pt (dw_and (dt_cmp op_pGt (de_callB call_pLen (by rfl) Z.n_len boot_len (da_cons (de_var (pv 4)) da_nil)) de_int (nomark _)) (dw_and1 (dt_cmp (op_pIn (room_hu hr)) (de_ix (de_var (pv 4)) de_int (by intro _ _; rfl)) (de_tup (da_cons de_str (da_cons de_str (da_cons de_str da_nil)))) (by with_unfolding_all rfl))))) (ds_one (dps_put (ps_asg de_str (pg_sub (de_var (pv 4)) de_int set_setL)))) ds_nil)
  (ds_one (dps_ret (de_callTy call_pTupOf (by rfl) Z.n_tuple boot_tuple (da_cons (de_var (pv 4)) da_nil)))))))))))
abbrev s__law_tower : Stmt := (top 45)
theorem sc__law_tower : FnScope ["hand", "bottom", "many", "here", "turn", "how"] ["hand", "bottom", "many"] (defScope s__law_tower) := ⟨rfl, rfl, rfl, by decide +kernel, rfl, by decide +kernel, by decide +kernel⟩
theorem ok__law_tower (Z : Glob K mg cls) : FnB P w K mg base cls "_law_tower" 4 3 f__law_tower := by
  obtain ⟨f, fd, F, hm⟩ := Z.d__law_tower
  refine mkFn F hm sc__law_tower rfl rfl (FunD.bindsN (ps := ["hand", "bottom", "many"]) F fun _ _ _ _ _ _ us hl => match us, hl with | [_, _, _], _ => rfl) fun cdv A outer s H E hr g => ?_
  have nd := sc__law_tower.nd
  exact (ds_cons (dps_set (i := 3) nd rfl (by first | exact Or.inl rfl | exact Or.inr rfl) (de_var (pv 1)))
  (ds_cons (dps_for (g := (.nm 4)) (ps_for g.own rfl (di_range1 (by rfl) Z.n_range (da_cons (de_var (pv 2)) da_nil)) (pg_name (i := 4) nd rfl (by first | exact Or.inl rfl | exact Or.inr rfl)) (ds_cons (dps_set (i := 5) nd rfl (by first | exact Or.inl rfl | exact Or.inr rfl) (de_fn ((ok__law_draw Z).mono (by omega)) hr g.pass (da_cons (de_var (pv 0)) (da_cons de_int da_nil)) (by rfl)))
   (ds_one (dps_if (dt_cmp (op_pEq (room_hu hr)) (de_var (pv 5)) de_int (nomark _)) (ds_one (dps_set (i := 3) nd rfl (by first | exact Or.inl rfl | exact Or.inr rfl) (de_tup (da_cons de_str (da_cons (de_fn ((ok__law_key Z).mono (by omega)) hr g.pass (da_cons (de_var (pv 0)) da_nil) (by rfl)) (da_cons (de_var (pv 3)) da_nil)))))) (ds_one (dps_if (dt_cmp (op_pEq (room_hu hr)) (de_var (pv 5)) de_int (nomark _)) (ds_one (dps_set (i := 3) nd rfl (by first | exact Or.inl rfl | exact Or.inr rfl) (de_tup (da_cons de_str (da_cons (de_fn ((ok__law_key Z).mono (by omega)) hr g.pass (da_cons (de_var (pv 0)) da_nil) (by rfl)) (da_cons (de_var (pv 3)) da_nil)))))) (ds_one (dps_set (i := 3) nd rfl (by first | exact Or.inl rfl | exact Or.inr rfl) (de_if (dt_cmp (op_pNotIn (room_hu hr)) (de_var (pv 3)) (de_tup (da_cons de_str (da_cons de_str (da_cons de_str da_nil)))) (by with_unfolding_all rfl)) (de_tup (da_cons (de_var (pv 3)) da_nil)) (de_tup (da_cons de_int (da_cons (de_var (pv 3)) da_nil)))))))))))))
  (ds_one (dps_ret (de_var (pv 3))))))
abbrev s__law_great : Stmt := (top 49)
theorem sc__law_great : FnScope ["hand", "how", "here", "wide"] ["hand"] (defScope s__law_great) := ⟨rfl, rfl, rfl, by decide +kernel, rfl, by decide +kernel, by decide +kernel⟩
theorem ok__law_great (Z : Glob K mg cls) : FnB P w K mg base cls "_law_great" 45 1 f__law_great := by
  obtain ⟨f, fd, F, hm⟩ := Z.d__law_great
  refine mkFn F hm sc__law_great rfl rfl (FunD.bindsN (ps := ["hand"]) F fun _ _ _ _ _ _ us hl => match us, hl with | [_], _ => rfl) fun cdv A outer s H E hr g => ?_
  have nd := sc__law_great.nd
  exact (ds_cons (dps_set (i := 1) nd rfl (by first | exact Or.inl rfl | exact Or.inr rfl) (de_fn ((ok__law_draw Z).mono (by omega)) hr g.pass (da_cons (de_var (pv 0)) (da_cons de_int da_nil)) (by rfl)))
  (ds_cons (dps_if (dt_cmp (op_pEq (room_hu hr)) (de_var (pv 1)) de_int (nomark _)) (ds_one (dps_ret (de_fn ((ok__law_tower Z).mono (by omega)) hr g.pass (da_cons (de_var (pv 0)) (da_cons (de_fn ((ok__law_some Z).mono (by omega)) hr g.pass (da_cons (de_var (pv 0)) (da_cons (de_lst (da_cons de_int (da_cons de_str (da_cons de_non (da_cons (de_tup da_nil) (da_cons (de_tup (da_cons de_str (da_cons de_int da_nil))) da_nil)))))) da_nil)) (by rfl)) (da_cons (de_bin op_pAdd de_int (de_fn ((ok__law_draw Z).mono (by omega)) hr g.pass (da_cons (de_var (pv 0)) (da_cons de_int da_nil)) (by rfl))) da_nil))) (by rfl)))) ds_nil)
  (ds_cons (dps_if (dt_cmp (op_pEq (room_hu hr)) (de_var (pv 1)) de_int (nomark _)) (ds_one (dps_ret (de_fn ((ok__law_tower Z).mono (by omega)) hr g.pass (da_cons (de_var (pv 0)) (da_cons de_int (da_cons (de_bin op_pAdd de_int (de_fn ((ok__law_draw Z).mono (by omega)) hr g.pass (da_cons (de_var (pv 0)) (da_cons de_int da_nil)) (by rfl))) da_nil))) (by rfl)))) ds_nil)
  (ds_cons (dps_if (dt_cmp (op_pEq (room_hu hr)) (de_var (pv 1)) de_int (nomark _)) (ds_cons (dps_set (i := 2) nd rfl (by first | exact Or.inl rfl | exact Or.inr rfl) (de_fn ((ok__law_sized Z 40).mono (by omega)) hr g.pass (da_cons (de_fn ((ok__law_some Z).mono (by omega)) hr g.pass (da_cons (de_var (pv 0)) (da_cons (de_lst (da_cons de_int (da_cons de_int (da_cons de_int (da_cons de_int (da_cons de_int da_nil)))))) da_nil)) (by rfl)) da_nil) (by rfl)))
   (ds_one (dps_ret (de_fn ((ok__law_some Z).mono (by omega)) hr g.pass (da_cons (de_var (pv 0)) (da_cons (de_lst (da_cons (de_var (pv 2)) (da_cons (de_tup (da_cons de_str (da_cons de_int (da_cons (de_var (pv 2)) da_nil)))) (da_cons (de_tup (da_cons (de_bin op_pAdd (de_sl (de_var (pv 2)) (do_some de_int) do_none) (de_tup (da_cons (de_tup (da_cons de_str (da_cons de_int (da_cons (de_tup (da_cons de_str (da_cons de_int da_nil))) da_nil)))) da_nil))) (da_cons (de_ix (de_var (pv 2)) de_int (by intro _ _; rfl)) da_nil))) da_nil)))) da_nil)) (by rfl))))) ds_nil)
  (ds_cons (dps_set (i := 3) nd rfl (by first | exact Or.inl rfl | exact Or.inr rfl) (de_bin op_pMul (de_tup (da_cons (de_fn ((ok__law_term Z 40).mono (by omega)) hr g.pass (da_cons (de_var (pv 0)) (da_cons de_int da_nil)) (by rfl)) da_nil)) de_int))
  (ds_one (dps_ret (de_fn ((ok__law_some Z).mono (by omega)) hr g.pass (da_cons (de_var (pv 0)) (da_cons (de_lst (da_cons (de_bin op_pAdd (de_tup (da_cons de_str da_nil)) (de_sl (de_var (pv 3)) (do_some de_int) do_none)) (da_cons (de_bin op_pAdd (de_tup (da_cons de_str da_nil)) (de_var (pv 3))) (da_cons (de_bin op_pAdd (de_bin op_pAdd (de_tup (da_cons de_int da_nil)) (de_sl (de_var (pv 3)) do_none (do_some de_int))) (de_tup (da_cons (de_bin op_pMul (de_tup (da_cons de_int da_nil)) de_int) da_nil))) (da_cons (de_tup (da_cons de_str (da_cons (de_bin op_pMul (de_tup (da_cons de_int da_nil)) de_int) da_nil))) da_nil))))) da_nil)) (by rfl)))))))))
abbrev s__law_hand : Stmt := (top 34)
theorem sc__law_hand : FnScope ["script", "cells", "cell"] ["script"] (defScope s__law_hand) := ⟨rfl, rfl, rfl, by decide +kernel, rfl, by decide +kernel, by decide +kernel⟩
theorem ok__law_hand (Z : Glob K mg cls) : FnB P w K mg base cls "_law_hand" 1 1 f__law_hand := by
  obtain ⟨f, fd, F, hm⟩ := Z.d__law_hand
  refine mkFn F hm sc__law_hand rfl rfl (FunD.bindsN (ps := ["script"]) F fun _ _ _ _ _ _ us hl => match us, hl with | [_], _ => rfl) fun cdv A outer s H E hr g => ?_
  have nd := sc__law_hand.nd
  exact (ds_cons (dps_lc (g := (.nm 2)) (vs := [2]) (by decide) (ps_setLc (own := [("cell", 2)]) (i := 1) rfl nd rfl rfl (by rfl) (di_seq (de_sl (de_var (pv 0)) do_none (do_some de_int))) (blkOk_by (by rfl)) (fun _ _ _ _ _ => (pg_name (i := 2) nd rfl (by first | exact Or.inl rfl | exact Or.inr rfl))) (fun _ _ _ _ _ => dts_nil) (fun _ _ _ _ _ => (de_callB call_pAbs (by rfl) Z.n_abs boot_abs (da_cons (de_callTy call_pInt1 (by rfl) Z.n_int boot_int (da_cons (de_var (pv 2)) da_nil)) da_nil)))))
  (ds_one (dps_ret (de_lst (da_cons (de_var (pv 1)) (da_cons de_int (da_cons de_int (da_cons (de_bin op_pAdd de_int (de_callB call_pLen (by rfl) Z.n_len boot_len (da_cons (de_var (pv 1)) da_nil))) (da_cons de_int da_nil)))))))))
abbrev s__law_is_number : Stmt := (top 37)
theorem sc__law_is_number : FnScope ["thing", "most"] ["thing", "most"] (defScope s__law_is_number) := ⟨rfl, rfl, rfl, by decide +kernel, rfl, by decide +kernel, by decide +kernel⟩
theorem ok__law_is_number (Z : Glob K mg cls) : FnB P w K mg base cls "_law_is_number" 1 2 f__law_is_number := by
  obtain ⟨f, fd, F, hm⟩ := Z.d__law_is_number
  refine mkFn F hm sc__law_is_number rfl rfl (FunD.bindsN (ps := ["thing", "most"]) F fun _ _ _ _ _ _ us hl => match us, hl with | [_, _], _ => rfl) fun cdv A outer s H E hr g => ?_
  have nd := sc__law_is_number.nd
  exact (ds_one (dps_ret (de_and (de_isi Z.hI Z.hK_int (by decide +kernel) (pe_callB call_isi (by rfl) Z.n_isinstance boot_isinstance (pa_cons (de_var (pv 0)) (pa_cons (pe_bltn (v := .ty "int") (by rfl) Z.n_int boot_int rfl) pa_nil))) rfl) (de_and (de_not (de_isi Z.hI Z.hK_bool (by decide +kernel) (pe_callB call_isi (by rfl) Z.n_isinstance boot_isinstance (pa_cons (de_var (pv 0)) (pa_cons (pe_bltn (v := .ty "bool") (by rfl) Z.n_bool boot_bool rfl) pa_nil))) rfl)) (de_one (de_chain op_pLe op_pLt de_int (de_var (pv 0)) (de_var (pv 1))))))))
abbrev s__law_kind : Stmt := (top 38)
theorem sc__law_kind : FnScope ["thing"] ["thing"] (defScope s__law_kind) := ⟨rfl, rfl, rfl, by decide +kernel, rfl, by decide +kernel, by decide +kernel⟩
theorem ok__law_kind (Z : Glob K mg cls) : FnB P w K mg base cls "_law_kind" 2 1 f__law_kind := by
  obtain ⟨f, fd, F, hm⟩ := Z.d__law_kind
  refine mkFn F hm sc__law_kind rfl rfl (FunD.bindsN (ps := ["thing"]) F fun _ _ _ _ _ _ us hl => match us, hl with | [_], _ => rfl) fun cdv A outer s H E hr g => ?_
  have nd := sc__law_kind.nd
  exact (ds_cons (dps_if (dt_cmp op_pIsN (de_var (pv 0)) de_non (nomark _)) (ds_one (dps_ret de_str)) ds_nil)
  (ds_cons (dps_if (dt_val (de_isi Z.hI Z.hK_str (by decide +kernel) (pe_callB call_isi (by rfl) Z.n_isinstance boot_isinstance (pa_cons (de_var (pv 0)) (pa_cons (pe_bltn (v := .ty "str") (by rfl) Z.n_str boot_str rfl) pa_nil))) rfl)) (ds_one (dps_ret (de_if (PW.pt (dw_and (dt_cmp op_pLe (de_callB call_pLen (by rfl) Z.n_len boot_len (da_cons (de_var (pv 0)) da_nil)) de_int (nomark _)) (dw_and1 (dt_cmp (op_pNotIn (room_hu hr)) de_str (de_var (pv 0)) (by with_unfolding_all rfl))))) de_str de_str))) ds_nil)
  (ds_cons (dps_if (dt_not (dt_val (de_isi Z.hI Z.hK_tuple (by decide +kernel) (pe_callB call_isi (by rfl) Z.n_isinstance boot_isinstance (pa_cons (de_var (pv 0)) (pa_cons (pe_bltn (v := .ty "tuple") (by rfl) Z.n_tuple boot_tuple rfl) pa_nil))) rfl))) (ds_one (dps_ret (de_if (dt_val (de_fn ((ok__law_is_number Z).mono (by omega)) hr g.pass (da_cons (de_var (pv 0)) (da_cons (de_bin op_pPow de_int de_int) da_nil)) (by rfl))) de_str de_str))) ds_nil)
  (ds_cons (dps_if (PW.pt (dw_and (dt_cmp op_pGt (de_callB call_pLen (by rfl) Z.n_len boot_len (da_cons (de_var (pv 0)) da_nil)) de_int (nomark _)) (dw_and (dt_val (de_isi Z.hI Z.hK_str (by decide +kernel) (pe_callB call_isi (by rfl) Z.n_isinstance boot_isinstance (pa_cons (de_ix (de_var (pv 0)) de_int (by intro _ _; rfl)) (pa_cons (pe_bltn (v := .ty "str") (by rfl) Z.n_str boot_str rfl) pa_nil))) rfl)) (dw_and1 (dt_cmp (op_pIn (room_hu hr)) (de_ix (de_var (pv 0)) de_int (by intro _ _; rfl)) (de_tup (da_cons de_str (da_cons de_str (da_cons de_str da_nil)))) (by with_unfolding_all rfl)))))) (ds_cons (dps_if (dt_cmp (op_pEq (room_hu hr)) (de_ix (de_var (pv 0)) de_int (by intro _ _; rfl)) de_str (nomark _)) (ds_one (dps_ret (de_if (PW.pt (dw_and (dt_cmp (op_pEq (room_hu hr)) (de_callB call_pLen (by rfl) Z.n_len boot_len (da_cons (de_var (pv 0)) da_nil)) de_int (nomark _)) (dw_and1 (dt_val (de_fn ((ok__law_is_number Z).mono (by omega)) hr g.pass (da_cons (de_ix (de_var (pv 0)) de_int (by intro _ _; rfl)) (da_cons (de_bin op_pPow de_int de_int) da_nil)) (by rfl)))))) de_str de_str))) ds_nil)
   (ds_one (dps_ret (de_if (PW.pt (dw_and (dt_cmp (op_pEq (room_hu hr)) (de_callB call_pLen (by rfl) Z.n_len boot_len (da_cons (de_var (pv 0)) da_nil)) de_int (nomark _)) (dw_and1 (dt_val (de_fn ((ok__law_is_number Z).mono (by omega)) hr g.pass (da_cons (de_ix (de_var (pv 0)) de_int (by intro _ _; rfl)) (da_cons de_int da_nil)) (by rfl)))))) (de_ix (de_var (pv 0)) de_int (by intro _ _; rfl)) de_str)))) ds_nil)
  (ds_one (dps_ret (de_if (dt_cmp op_pLe (de_callB call_pLen (by rfl) Z.n_len boot_len (da_cons (de_var (pv 0)) da_nil)) de_int (nomark _)) de_str de_str)))))))
abbrev s__law_within : Stmt := (top 39)
theorem sc__law_within : FnScope ["term", "kind"] ["term"] (defScope s__law_within) := ⟨rfl, rfl, rfl, by decide +kernel, rfl, by decide +kernel, by decide +kernel⟩
theorem ok__law_within (Z : Glob K mg cls) : FnB P w K mg base cls "_law_within" 3 1 f__law_within := by
  obtain ⟨f, fd, F, hm⟩ := Z.d__law_within
  refine mkFn F hm sc__law_within rfl rfl (FunD.bindsN (ps := ["term"]) F fun _ _ _ _ _ _ us hl => match us, hl with | [_], _ => rfl) fun cdv A outer s H E hr g => ?_
  have nd := sc__law_within.nd
  exact (ds_cons (dps_set (i := 1) nd rfl (by first | exact Or.inl rfl | exact Or.inr rfl) (de_fn ((ok__law_kind Z).mono (by omega)) hr g.pass (da_cons (de_var (pv 0)) da_nil) (by rfl)))
  (ds_cons (dps_if (dt_cmp (op_pEq (room_hu hr)) (de_var (pv 1)) de_str (nomark _)) (ds_one (dps_ret (de_callTy (call_pListOf rfl) (by rfl) Z.n_list boot_list (da_cons (de_var (pv 0)) da_nil)))) ds_nil)
  (ds_one (dps_ret (de_if (dt_cmp (op_pIn (room_hu hr)) (de_var (pv 1)) (de_tup (da_cons de_str (da_cons de_str da_nil))) (by with_unfolding_all rfl)) (de_lst (da_cons (de_ix (de_var (pv 0)) de_int (by intro _ _; rfl)) da_nil)) (de_lst da_nil))))))
abbrev s__law_is_term : Stmt := (top 40)
theorem sc__law_is_term : FnScope ["thing", "parts", "waiting", "here", "deep", "one"] ["thing"] (defScope s__law_is_term) := ⟨rfl, rfl, rfl, by decide +kernel, rfl, by decide +kernel, by decide +kernel⟩
theorem ok__law_is_term (Z : Glob K mg cls) : FnB P w K mg base cls "_law_is_term" 4 1 f__law_is_term := by
  obtain ⟨f, fd, F, hm⟩ := Z.d__law_is_term
  refine mkFn F hm sc__law_is_term rfl rfl (FunD.bindsN (ps := ["thing"]) F fun _ _ _ _ _ _ us hl => match us, hl with | [_], _ => rfl) fun cdv A outer s H E hr g => ?_
  have nd := sc__law_is_term.nd
  exact (ds_cons (dps_par2 (ps_par (i := 1) (j := 2) rfl nd rfl rfl (by decide) rfl rfl (da_cons de_int (da_cons (de_lst (da_cons (de_tup (da_cons (de_var (pv 0)) (da_cons de_int da_nil))) da_nil)) da_nil)) (by rfl)))
  (ds_cons (dps_while (ps_while g.own (dt_cmp op_pGt (de_callB call_pLen (by rfl) Z.n_len boot_len (da_cons (de_var (pv 2)) da_nil)) de_int (nomark _)) (ds_cons (dps_setT (ps_asg (de_bm0 (pe_bm0 PySem.F.plainAttrs_list PySem.F.slot_list_pop PySem.F.type_list_pop mt_dPop (de_var (pv 2)))) (pg_tup rfl (pgs_cons (pg_name (i := 3) nd rfl (by first | exact Or.inl rfl | exact Or.inr rfl)) (pgs_cons (pg_name (i := 4) nd rfl (by first | exact Or.inl rfl | exact Or.inr rfl)) pgs_nil)))))
   (ds_cons (dps_set (i := 1) nd rfl (by first | exact Or.inl rfl | exact Or.inr rfl) (de_bin op_pAdd (de_var (pv 1)) de_int))
   (ds_cons (dps_if (PW.pt (dw_or (dt_cmp op_pGt (de_var (pv 4)) de_int (nomark _)) (dw_or (dt_cmp op_pGt (de_var (pv 1)) de_int (nomark _)) (dw_or1 (dt_cmp (op_pEq (room_hu hr)) (de_fn ((ok__law_kind Z).mono (by omega)) hr g.pass (da_cons (de_var (pv 3)) da_nil) (by rfl)) de_str (nomark _)))))) (ds_one (dps_ret de_bl)) ds_nil)
   (ds_one (dps_expr (de_bm (pe_bm PySem.F.plainAttrs_list PySem.F.slot_list_extend PySem.F.type_list_extend mt_dExtend (de_var (pv 2)) (da_cons (de_lc (g := (.nm 5)) (vs := [5]) (by decide) (pe_lc (own := [("one", 5)]) rfl nd (di_seq (de_fn ((ok__law_within Z).mono (by omega)) hr g.pass (da_cons (de_var (pv 3)) da_nil) (by rfl))) (blkOk_by (by rfl)) (fun _ _ _ _ _ => (pg_name (i := 5) nd rfl (by first | exact Or.inl rfl | exact Or.inr rfl))) (fun _ _ _ _ _ => dts_nil) (fun _ _ _ _ _ => (de_tup (da_cons (de_var (pv 5)) (da_cons (de_bin op_pAdd (de_var (pv 4)) de_int) da_nil)))))) da_nil))))))))))
  (ds_one (dps_ret de_bl))))
abbrev s_head_word : Stmt := (top 20)
theorem sc_head_word : FnScope ["thing"] ["thing"] (defScope s_head_word) := ⟨rfl, rfl, rfl, by decide +kernel, rfl, by decide +kernel, by decide +kernel⟩
theorem ok_head_word (Z : Glob K mg cls) : FnB P w K mg base cls "head_word" 1 1 f_head_word := by
  obtain ⟨f, fd, F, hm⟩ := Z.d_head_word
  refine mkFn F hm sc_head_word rfl rfl (FunD.bindsN (ps := ["thing"]) F fun _ _ _ _ _ _ us hl => match us, hl with | [_], _ => rfl) fun cdv A outer s H E hr g => ?_
  have nd := sc_head_word.nd
  exact (ds_cons (dps_if (PW.pt (dw_and (dt_cmp op_pGt (de_callB call_pLen (by rfl) Z.n_len boot_len (da_cons (de_var (pv 0)) da_nil)) de_int (nomark _)) (dw_and (dt_val (de_isi Z.hI Z.hK_str (by decide +kernel) (pe_callB call_isi (by rfl) Z.n_isinstance boot_isinstance (pa_cons (de_ix (de_var (pv 0)) de_int (by intro _ _; rfl)) (pa_cons (pe_bltn (v := .ty "str") (by rfl) Z.n_str boot_str rfl) pa_nil))) rfl)) (dw_and1 (dt_cmp (op_pIn (room_hu hr)) (de_ix (de_var (pv 0)) de_int (by intro _ _; rfl)) (de_tup (da_cons (de_gstr Z.c_SIGNED (by rfl)) (da_cons (de_gstr Z.c_SEALED (by rfl)) (da_cons (de_gstr Z.c_SECRET (by rfl)) da_nil)))) (by with_unfolding_all rfl)))))) (ds_one (dps_ret (de_ix (de_var (pv 0)) de_int (by intro _ _; rfl)))) ds_nil)
  (ds_one (dps_ret de_non)))
abbrev s_inner_of : Stmt := (top 22)
theorem sc_inner_of : FnScope ["term"] ["term"] (defScope s_inner_of) := ⟨rfl, rfl, rfl, by decide +kernel, rfl, by decide +kernel, by decide +kernel⟩
theorem ok_inner_of (Z : Glob K mg cls) : FnB P w K mg base cls "inner_of" 2 1 f_inner_of := by
  obtain ⟨f, fd, F, hm⟩ := Z.d_inner_of
  refine mkFn F hm sc_inner_of rfl rfl (FunD.bindsN (ps := ["term"]) F fun _ _ _ _ _ _ us hl => match us, hl with | [_], _ => rfl) fun cdv A outer s H E hr g => ?_
  have nd := sc_inner_of.nd
  exact (ds_cons (dps_if (PW.pt (dw_or (dt_not (dt_val (de_isi Z.hI Z.hK_tuple (by decide +kernel) (pe_callB call_isi (by rfl) Z.n_isinstance boot_isinstance (pa_cons (de_var (pv 0)) (pa_cons (pe_bltn (v := .ty "tuple") (by rfl) Z.n_tuple boot_tuple rfl) pa_nil))) rfl))) (dw_or1 (dt_cmp (op_pEq (room_hu hr)) (de_fn ((ok_head_word Z).mono (by omega)) hr g.pass (da_cons (de_var (pv 0)) da_nil) (by rfl)) (de_gstr Z.c_SECRET (by rfl)) (nomark _))))) (ds_one (dps_ret (de_tup da_nil))) ds_nil)
  (ds_one (dps_ret (de_if (dt_cmp op_pIsN (de_fn ((ok_head_word Z).mono (by omega)) hr g.pass (da_cons (de_var (pv 0)) da_nil) (by rfl)) de_non (nomark _)) (de_var (pv 0)) (de_sl (de_var (pv 0)) (do_some de_int) do_none)))))
abbrev s_is_string : Stmt := (top 18)
theorem sc_is_string : FnScope ["thing", "sign"] ["thing"] (defScope s_is_string) := ⟨rfl, rfl, rfl, by decide +kernel, rfl, by decide +kernel, by decide +kernel⟩
theorem ok_is_string (Z : Glob K mg cls) : FnB P w K mg base cls "is_string" 1 1 f_is_string := by
  obtain ⟨f, fd, F, hm⟩ := Z.d_is_string
  refine mkFn F hm sc_is_string rfl rfl (FunD.bindsN (ps := ["thing"]) F fun _ _ _ _ _ _ us hl => match us, hl with | [_], _ => rfl) fun cdv A outer s H E hr g => ?_
  have nd := sc_is_string.nd
  exact (ds_one (dps_ret (de_and (de_isi Z.hI Z.hK_str (by decide +kernel) (pe_callB call_isi (by rfl) Z.n_isinstance boot_isinstance (pa_cons (de_var (pv 0)) (pa_cons (pe_bltn (v := .ty "str") (by rfl) Z.n_str boot_str rfl) pa_nil))) rfl) (de_and (de_cmp op_pLe (de_callB call_pLen (by rfl) Z.n_len boot_len (da_cons (de_var (pv 0)) da_nil)) (de_gint Z.c_MOST_SIGNS (by rfl)) (nomark _)) (de_one (de_callB (call_pAll rfl) (by rfl) Z.n_all boot_all (da_cons (de_lc (g := (.nm 1)) (vs := [1]) (by decide) (pe_lc (own := [("sign", 1)]) rfl nd (di_seq (de_var (pv 0))) (blkOk_by (by rfl)) (fun _ _ _ _ _ => (pg_name (i := 1) nd rfl (by first | exact Or.inl rfl | exact Or.inr rfl))) (fun _ _ _ _ _ => dts_nil) (fun _ _ _ _ _ => (de_chain op_pLe op_pLe de_str (de_var (pv 1)) de_str)))) da_nil)))))))
abbrev s_is_bare : Stmt := (top 19)
theorem sc_is_bare : FnScope ["thing"] ["thing"] (defScope s_is_bare) := ⟨rfl, rfl, rfl, by decide +kernel, rfl, by decide +kernel, by decide +kernel⟩
theorem ok_is_bare (Z : Glob K mg cls) : FnB P w K mg base cls "is_bare" 3 1 f_is_bare := by
  obtain ⟨f, fd, F, hm⟩ := Z.d_is_bare
  refine mkFn F hm sc_is_bare rfl rfl (FunD.bindsN (ps := ["thing"]) F fun _ _ _ _ _ _ us hl => match us, hl with | [_], _ => rfl) fun cdv A outer s H E hr g => ?_
  have nd := sc_is_bare.nd
  exact (ds_one (dps_ret (de_or (de_cmp op_pIsN (de_var (pv 0)) de_non (nomark _)) (de_or (de_fn ((ok_is_string Z).mono (by omega)) hr g.pass (da_cons (de_var (pv 0)) da_nil) (by rfl)) (de_one (de_fn ((ok_is_within Z).mono (by omega)) hr g.pass (da_cons (de_var (pv 0)) (da_cons de_int (da_cons (de_gint Z.c_MOST_NUMBER (by rfl)) da_nil))) (by rfl)))))))
abbrev s_is_shaped : Stmt := (top 21)
theorem sc_is_shaped : FnScope ["thing", "word"] ["thing"] (defScope s_is_shaped) := ⟨rfl, rfl, rfl, by decide +kernel, rfl, by decide +kernel, by decide +kernel⟩
theorem ok_is_shaped (Z : Glob K mg cls) : FnB P w K mg base cls "is_shaped" 3 1 f_is_shaped := by
  obtain ⟨f, fd, F, hm⟩ := Z.d_is_shaped
  refine mkFn F hm sc_is_shaped rfl rfl (FunD.bindsN (ps := ["thing"]) F fun _ _ _ _ _ _ us hl => match us, hl with | [_], _ => rfl) fun cdv A outer s H E hr g => ?_
  have nd := sc_is_shaped.nd
  exact (ds_cons (dps_set (i := 1) nd rfl (by first | exact Or.inl rfl | exact Or.inr rfl) (de_fn ((ok_head_word Z).mono (by omega)) hr g.pass (da_cons (de_var (pv 0)) da_nil) (by rfl)))
  (ds_cons (dps_if (dt_cmp op_pIsN (de_var (pv 1)) de_non (nomark _)) (ds_one (dps_ret (de_cmp op_pLe (de_callB call_pLen (by rfl) Z.n_len boot_len (da_cons (de_var (pv 0)) da_nil)) (de_gint Z.c_MOST_ROW (by rfl)) (nomark _)))) ds_nil)
  (ds_cons (dps_if (dt_cmp (op_pEq (room_hu hr)) (de_var (pv 1)) (de_gstr Z.c_SECRET (by rfl)) (nomark _)) (ds_one (dps_ret (de_and (de_cmp (op_pEq (room_hu hr)) (de_callB call_pLen (by rfl) Z.n_len boot_len (da_cons (de_var (pv 0)) da_nil)) de_int (nomark _)) (de_one (de_fn ((ok_is_within Z).mono (by omega)) hr g.pass (da_cons (de_ix (de_var (pv 0)) de_int (by intro _ _; rfl)) (da_cons de_int (da_cons (de_gint Z.c_MOST_SECRET (by rfl)) da_nil))) (by rfl)))))) ds_nil)
  (ds_one (dps_ret (de_and (de_cmp (op_pEq (room_hu hr)) (de_callB call_pLen (by rfl) Z.n_len boot_len (da_cons (de_var (pv 0)) da_nil)) de_int (nomark _)) (de_one (de_fn ((ok_is_within Z).mono (by omega)) hr g.pass (da_cons (de_ix (de_var (pv 0)) de_int (by intro _ _; rfl)) (da_cons de_int (da_cons (de_gint Z.c_MOST_KEY (by rfl)) da_nil))) (by rfl)))))))))
abbrev s_is_bounded : Stmt := (top 23)
theorem sc_is_bounded : FnScope ["thing", "deep", "parts", "waiting", "many", "here", "level", "one"] ["thing", "deep", "parts"] (defScope s_is_bounded) := ⟨rfl, rfl, rfl, by decide +kernel, rfl, by decide +kernel, by decide +kernel⟩
theorem ok_is_bounded (Z : Glob K mg cls) : FnB P w K mg base cls "is_bounded" 4 3 f_is_bounded := by
  obtain ⟨f, fd, F, hm⟩ := Z.d_is_bounded
  refine mkFn F hm sc_is_bounded rfl rfl (FunD.bindsN (ps := ["thing", "deep", "parts"]) F fun _ _ _ _ _ _ us hl => match us, hl with | [_, _, _], _ => rfl) fun cdv A outer s H E hr g => ?_
  have nd := sc_is_bounded.nd
  exact (ds_cons (dps_set (i := 3) nd rfl (by first | exact Or.inl rfl | exact Or.inr rfl) (de_lst (da_cons (de_tup (da_cons (de_var (pv 0)) (da_cons de_int da_nil))) da_nil)))
  (ds_cons (dps_set (i := 4) nd rfl (by first | exact Or.inl rfl | exact Or.inr rfl) de_int)
  (ds_cons (dps_while (ps_while g.own (dt_cmp op_pGt (de_callB call_pLen (by rfl) Z.n_len boot_len (da_cons (de_var (pv 3)) da_nil)) de_int (nomark _)) (ds_cons (dps_setT (ps_asg (de_bm0 (pe_bm0 PySem.F.plainAttrs_list PySem.F.slot_list_pop PySem.F.type_list_pop mt_dPop (de_var (pv 3)))) (pg_tup rfl (pgs_cons (pg_name (i := 5) nd rfl (by first | exact Or.inl rfl | exact Or.inr rfl)) (pgs_cons (pg_name (i := 6) nd rfl (by first | exact Or.inl rfl | exact Or.inr rfl)) pgs_nil)))))
   (ds_cons (dps_aug (ps_aug (i := 4) nd rfl (by first | exact Or.inl rfl | exact Or.inr rfl) de_int ip_pIAdd))
   (ds_cons (dps_if (PW.pt (dw_or (dt_cmp op_pGt (de_var (pv 4)) (de_var (pv 2)) (nomark _)) (dw_or1 (dt_cmp op_pGt (de_var (pv 6)) (de_var (pv 1)) (nomark _))))) (ds_one (dps_ret de_bl)) ds_nil)
   (ds_one (dps_if (dt_val (de_isi Z.hI Z.hK_tuple (by decide +kernel) (pe_callB call_isi (by rfl) Z.n_isinstance boot_isinstance (pa_cons (de_var (pv 5)) (pa_cons (pe_bltn (v := .ty "tuple") (by rfl) Z.n_tuple boot_tuple rfl) pa_nil))) rfl)) (ds_cons (dps_if (dt_not (dt_val (de_fn ((ok_is_shaped Z).mono (by omega)) hr g.pass (da_cons (de_var (pv 5)) da_nil) (by rfl)))) (ds_one (dps_ret de_bl)) ds_nil)
    (ds_one (dps_expr (de_bm (pe_bm PySem.F.plainAttrs_list PySem.F.slot_list_extend PySem.F.type_list_extend mt_dExtend (de_var (pv 3)) (da_cons (de_lc (g := (.nm 7)) (vs := [7]) (by decide) (pe_lc (own := [("one", 7)]) rfl nd (di_seq (de_fn ((ok_inner_of Z).mono (by omega)) hr g.pass (da_cons (de_var (pv 5)) da_nil) (by rfl))) (blkOk_by (by rfl)) (fun _ _ _ _ _ => (pg_name (i := 7) nd rfl (by first | exact Or.inl rfl | exact Or.inr rfl))) (fun _ _ _ _ _ => dts_nil) (fun _ _ _ _ _ => (de_tup (da_cons (de_var (pv 7)) (da_cons (de_bin op_pAdd (de_var (pv 6)) de_int) da_nil)))))) da_nil)))))) (ds_one (dps_if (dt_not (dt_val (de_fn ((ok_is_bare Z).mono (by omega)) hr g.pass (da_cons (de_var (pv 5)) da_nil) (by rfl)))) (ds_one (dps_ret de_bl)) ds_nil)))))))))
  (ds_one (dps_ret de_bl)))))
abbrev s_is_term : Stmt := (top 24)
theorem sc_is_term : FnScope ["thing"] ["thing"] (defScope s_is_term) := ⟨rfl, rfl, rfl, by decide +kernel, rfl, by decide +kernel, by decide +kernel⟩
theorem ok_is_term (Z : Glob K mg cls) : FnB P w K mg base cls "is_term" 5 1 f_is_term := by
  obtain ⟨f, fd, F, hm⟩ := Z.d_is_term
  refine mkFn F hm sc_is_term rfl rfl (FunD.bindsN (ps := ["thing"]) F fun _ _ _ _ _ _ us hl => match us, hl with | [_], _ => rfl) fun cdv A outer s H E hr g => ?_
  have nd := sc_is_term.nd
  exact (ds_one (dps_ret (de_fn ((ok_is_bounded Z).mono (by omega)) hr g.pass (da_cons (de_var (pv 0)) (da_cons (de_gint Z.c_MOST_DEEP (by rfl)) (da_cons (de_gint Z.c_MOST_PARTS (by rfl)) da_nil))) (by rfl))))
abbrev s_law : Stmt := (top 51)
theorem sc_law : FnScope ["script", "hand", "turn", "term", "thing", "meant", "kept", "told"] ["script"] (defScope s_law) := ⟨rfl, rfl, rfl, by decide +kernel, rfl, by decide +kernel, by decide +kernel⟩
theorem ok_law (Z : Glob K mg cls) {f : Addr} {fd : FuncData} (F : FunD K "law" "law" (defArgs s_law) (defBody s_law) (defScope s_law) [] [] f fd) : FnOk P w K mg base (L2.CX P w) 47 f fd ["script"] (spD K cls 1 f_law) := by
  refine okD F sc_law rfl rfl fun cdv A outer s H E hr g => ?_
  have nd := sc_law.nd
  exact (ds_cons (dps_set (i := 1) nd rfl (by first | exact Or.inl rfl | exact Or.inr rfl) (de_fn ((ok__law_hand Z).mono (by omega)) hr g.pass (da_cons (de_var (pv 0)) da_nil) (by rfl)))
  (ds_cons (dps_for (g := (.nm 2)) (ps_for g.own rfl (di_range1 (by rfl) Z.n_range (da_cons de_int da_nil)) (pg_name (i := 2) nd rfl (by first | exact Or.inl rfl | exact Or.inr rfl)) (ds_cons (dps_set (i := 3) nd rfl (by first | exact Or.inl rfl | exact Or.inr rfl) (de_fn ((ok__law_term Z 40).mono (by omega)) hr g.pass (da_cons (de_var (pv 1)) (da_cons (de_bin op_pAdd de_int (de_fn ((ok__law_draw Z).mono (by omega)) hr g.pass (da_cons (de_var (pv 1)) (da_cons de_int da_nil)) (by rfl))) da_nil)) (by rfl)))
   (ds_one (dps_for (g := (.nm 4)) (ps_for g.own rfl (di_seq (de_lst (da_cons (de_var (pv 3)) (da_cons (de_fn ((ok__law_bent Z 40).mono (by omega)) hr g.pass (da_cons (de_var (pv 1)) (da_cons (de_var (pv 3)) da_nil)) (by rfl)) (da_cons (de_fn ((ok__law_bent Z 40).mono (by omega)) hr g.pass (da_cons (de_var (pv 1)) (da_cons (de_var (pv 3)) da_nil)) (by rfl)) (da_cons (de_fn ((ok__law_odd Z).mono (by omega)) hr g.pass (da_cons (de_var (pv 1)) da_nil) (by rfl)) da_nil)))))) (pg_name (i := 4) nd rfl (by first | exact Or.inl rfl | exact Or.inr rfl)) (ds_cons (dps_par2 (ps_par (i := 5) (j := 6) rfl nd rfl rfl (by decide) rfl rfl (da_cons (de_fn ((ok__law_is_term Z).mono (by omega)) hr g.pass (da_cons (de_var (pv 4)) da_nil) (by rfl)) (da_cons (de_fn ((ok__law_copied Z 40).mono (by omega)) hr g.pass (da_cons (de_var (pv 4)) da_nil) (by rfl)) da_nil)) (by rfl)))
    (ds_cons (dps_set (i := 7) nd rfl (by first | exact Or.inl rfl | exact Or.inr rfl) (de_fn ((ok_is_term Z).mono (by omega)) hr g.pass (da_cons (de_var (pv 4)) da_nil) (by rfl)))
    (ds_one (dps_if (PW.pt (dw_or (dt_not (dt_val (de_isi Z.hI Z.hK_bool (by decide +kernel) (pe_callB call_isi (by rfl) Z.n_isinstance boot_isinstance (pa_cons (de_var (pv 7)) (pa_cons (pe_bltn (v := .ty "bool") (by rfl) Z.n_bool boot_bool rfl) pa_nil))) rfl))) (dw_or (dt_cmp (op_pNe (room_hu hr)) (de_var (pv 7)) (de_var (pv 5)) (nomark _)) (dw_or1 (dtB_neX (op_eqB ((ok_Town_eq Z).mono (by omega)) hr) (de_var (pv 4)) (de_var (pv 6))))))) (ds_one (dps_ret de_bl)) ds_nil))))))))))
  (ds_cons (dps_for (g := (.nm 2)) (ps_for g.own rfl (di_range1 (by rfl) Z.n_range (da_cons de_int da_nil)) (pg_name (i := 2) nd rfl (by first | exact Or.inl rfl | exact Or.inr rfl)) (ds_cons (dps_set (i := 4) nd rfl (by first | exact Or.inl rfl | exact Or.inr rfl) (de_fn ((ok__law_great Z).mono (by omega)) hr g.pass (da_cons (de_var (pv 1)) da_nil) (by rfl)))
   (ds_cons (dps_set (i := 7) nd rfl (by first | exact Or.inl rfl | exact Or.inr rfl) (de_fn ((ok_is_term Z).mono (by omega)) hr g.pass (da_cons (de_var (pv 4)) da_nil) (by rfl)))
   (ds_one (dps_if (PW.pt (dw_or (dt_not (dt_val (de_isi Z.hI Z.hK_bool (by decide +kernel) (pe_callB call_isi (by rfl) Z.n_isinstance boot_isinstance (pa_cons (de_var (pv 7)) (pa_cons (pe_bltn (v := .ty "bool") (by rfl) Z.n_bool boot_bool rfl) pa_nil))) rfl))) (dw_or1 (dt_cmp (op_pNe (room_hu hr)) (de_var (pv 7)) (de_fn ((ok__law_is_term Z).mono (by omega)) hr g.pass (da_cons (de_var (pv 4)) da_nil) (by rfl)) (nomark _))))) (ds_one (dps_ret de_bl)) ds_nil))))))
  (ds_one (dps_ret de_bl)))))
end
end K01

set_option Elab.async false
set_option linter.all false
set_option maxRecDepth 100000
set_option maxHeartbeats 4000000
namespace K01
open PySem PySem.Spec L2 DL
open PyProof.Rows hiding St
/-! the head: facts by names, the run, the law from its plain form (printed by gen.py) -/
def dd_Town_all_parts : He.DefD := ⟨("Town", some "all_parts"), "all_parts", "Town.all_parts", defArgs s_Town_all_parts, defBody s_Town_all_parts, defScope s_Town_all_parts, [], []⟩
def dd_Town_eq : He.DefD := ⟨("Town", some "__eq__"), "__eq__", "Town.__eq__", defArgs s_Town_eq, defBody s_Town_eq, defScope s_Town_eq, [], []⟩
def dd__law_draw : He.DefD := ⟨("_law_draw", none), "_law_draw", "_law_draw", defArgs s__law_draw, defBody s__law_draw, defScope s__law_draw, [], []⟩
def dd_is_tuple_of : He.DefD := ⟨("is_tuple_of", none), "is_tuple_of", "is_tuple_of", defArgs s_is_tuple_of, defBody s_is_tuple_of, defScope s_is_tuple_of, [], []⟩
def dd_is_integer : He.DefD := ⟨("is_integer", none), "is_integer", "is_integer", defArgs s_is_integer, defBody s_is_integer, defScope s_is_integer, [], []⟩
def dd_is_within : He.DefD := ⟨("is_within", none), "is_within", "is_within", defArgs s_is_within, defBody s_is_within, defScope s_is_within, [], []⟩
def dd_are_wires : He.DefD := ⟨("are_wires", none), "are_wires", "are_wires", defArgs s_are_wires, defBody s_are_wires, defScope s_are_wires, [], []⟩
def dd_is_owner : He.DefD := ⟨("is_owner", none), "is_owner", "is_owner", defArgs s_is_owner, defBody s_is_owner, defScope s_is_owner, [], []⟩
def dd_Town_init : He.DefD := ⟨("Town", some "__init__"), "__init__", "Town.__init__", defArgs s_Town_init, defBody s_Town_init, defScope s_Town_init, [], []⟩
def dd__law_some : He.DefD := ⟨("_law_some", none), "_law_some", "_law_some", defArgs s__law_some, defBody s__law_some, defScope s__law_some, [], []⟩
def dd__law_odd : He.DefD := ⟨("_law_odd", none), "_law_odd", "_law_odd", defArgs s__law_odd, defBody s__law_odd, defScope s__law_odd, [], []⟩
def dd__law_bent : He.DefD := ⟨("_law_bent", none), "_law_bent", "_law_bent", defArgs s__law_bent, defBody s__law_bent, defScope s__law_bent, [], []⟩
def dd__law_copied : He.DefD := ⟨("_law_copied", none), "_law_copied", "_law_copied", defArgs s__law_copied, defBody s__law_copied, defScope s__law_copied, [], []⟩
def dd__law_sized : He.DefD := ⟨("_law_sized", none), "_law_sized", "_law_sized", defArgs s__law_sized, defBody s__law_sized, defScope s__law_sized, [], []⟩
def dd__law_key : He.DefD := ⟨("_law_key", none), "_law_key", "_law_key", defArgs s__law_key, defBody s__law_key, defScope s__law_key, [], []⟩
def dd__law_word_drawn : He.DefD := ⟨("_law_word_drawn", none), "_law_word_drawn", "_law_word_drawn", defArgs s__law_word_drawn, defBody s__law_word_drawn, defScope s__law_word_drawn, [], []⟩
def dd__law_leaf : He.DefD := ⟨("_law_leaf", none), "_law_leaf", "_law_leaf", defArgs s__law_leaf, defBody s__law_leaf, defScope s__law_leaf, [], []⟩
def dd__law_term : He.DefD := ⟨("_law_term", none), "_law_term", "_law_term", defArgs s__law_term, defBody s__law_term, defScope s__law_term, [], []⟩
def dd__law_tower : He.DefD := ⟨("_law_tower", none), "_law_tower", "_law_tower", defArgs s__law_tower, defBody s__law_tower, defScope s__law_tower, [], []⟩
def dd__law_great : He.DefD := ⟨("_law_great", none), "_law_great", "_law_great", defArgs s__law_great, defBody s__law_great, defScope s__law_great, [], []⟩
def dd__law_hand : He.DefD := ⟨("_law_hand", none), "_law_hand", "_law_hand", defArgs s__law_hand, defBody s__law_hand, defScope s__law_hand, [], []⟩
def dd__law_is_number : He.DefD := ⟨("_law_is_number", none), "_law_is_number", "_law_is_number", defArgs s__law_is_number, defBody s__law_is_number, defScope s__law_is_number, [], []⟩
def dd__law_kind : He.DefD := ⟨("_law_kind", none), "_law_kind", "_law_kind", defArgs s__law_kind, defBody s__law_kind, defScope s__law_kind, [], []⟩
def dd__law_within : He.DefD := ⟨("_law_within", none), "_law_within", "_law_within", defArgs s__law_within, defBody s__law_within, defScope s__law_within, [], []⟩
def dd__law_is_term : He.DefD := ⟨("_law_is_term", none), "_law_is_term", "_law_is_term", defArgs s__law_is_term, defBody s__law_is_term, defScope s__law_is_term, [], []⟩
def dd_head_word : He.DefD := ⟨("head_word", none), "head_word", "head_word", defArgs s_head_word, defBody s_head_word, defScope s_head_word, [], []⟩
def dd_inner_of : He.DefD := ⟨("inner_of", none), "inner_of", "inner_of", defArgs s_inner_of, defBody s_inner_of, defScope s_inner_of, [], []⟩
def dd_is_string : He.DefD := ⟨("is_string", none), "is_string", "is_string", defArgs s_is_string, defBody s_is_string, defScope s_is_string, [], []⟩
def dd_is_bare : He.DefD := ⟨("is_bare", none), "is_bare", "is_bare", defArgs s_is_bare, defBody s_is_bare, defScope s_is_bare, [], []⟩
def dd_is_shaped : He.DefD := ⟨("is_shaped", none), "is_shaped", "is_shaped", defArgs s_is_shaped, defBody s_is_shaped, defScope s_is_shaped, [], []⟩
def dd_is_bounded : He.DefD := ⟨("is_bounded", none), "is_bounded", "is_bounded", defArgs s_is_bounded, defBody s_is_bounded, defScope s_is_bounded, [], []⟩
def dd_is_term : He.DefD := ⟨("is_term", none), "is_term", "is_term", defArgs s_is_term, defBody s_is_term, defScope s_is_term, [], []⟩
def dd_law : He.DefD := ⟨("law", none), "law", "law", defArgs s_law, defBody s_law, defScope s_law, [], []⟩
def fn : List He.DefD := [dd_Town_all_parts, dd_Town_eq, dd__law_draw, dd_is_tuple_of, dd_is_integer, dd_is_within, dd_are_wires, dd_is_owner, dd_Town_init, dd__law_some, dd__law_odd, dd__law_bent, dd__law_copied, dd__law_sized, dd__law_key, dd__law_word_drawn, dd__law_leaf, dd__law_term, dd__law_tower, dd__law_great, dd__law_hand, dd__law_is_number, dd__law_kind, dd__law_within, dd__law_is_term, dd_head_word, dd_inner_of, dd_is_string, dd_is_bare, dd_is_shaped, dd_is_bounded, dd_is_term, dd_law]
def fa : List He.Fa := [.free "abs", .free "all", .free "bool", .free "int", .free "isinstance", .free "len", .free "list", .free "min", .free "range", .free "str", .free "tuple", .int "LEAST_OWNER" 10, .int "LEAST_SEAL" 100, .int "MOST_DEEP" 30, .int "MOST_KEY" 999, .int "MOST_NODES" 9, .int "MOST_NUMBER" 999999999999, .int "MOST_PARTS" 5000, .int "MOST_ROW" 60, .int "MOST_SECRET" 999999999, .int "MOST_SIGNS" 40, .int "MOST_WIRES" 20, .str "SEALED" "sealed", .str "SECRET" "secret", .str "SIGNED" "signed", .glo "Town", .cls "Town", .meth "Town" "all_parts", .meth "Town" "__eq__", .glo "_law_draw", .glo "is_tuple_of", .glo "is_integer", .glo "is_within", .glo "are_wires", .glo "is_owner", .mkr "Town", .glo "_law_some", .glo "_law_odd", .glo "_law_bent", .glo "_law_copied", .glo "_law_sized", .glo "_law_key", .glo "_law_word_drawn", .glo "_law_leaf", .glo "_law_term", .glo "_law_tower", .glo "_law_great", .glo "_law_hand", .glo "_law_is_number", .glo "_law_kind", .glo "_law_within", .glo "_law_is_term", .glo "head_word", .glo "inner_of", .glo "is_string", .glo "is_bare", .glo "is_shaped", .glo "is_bounded", .glo "is_term", .glo "law", .noat "Town" "loss", .noat "Town" "most", .noat "Town" "nodes", .noat "Town" "root", .noat "Town" "wires"]
def cl (K : PySem.W.Frag) : Nat → Addr := fun _ => He.ga K "Town"
def ex (K : PySem.W.Frag) : Bool := ((decide (PySem.W.kitOne K (.ref (cl K 0)) (.ref (cl K 0)) = some (0 == 0))) && ((kinds.all fun a => decide (PySem.W.kitOne K (.type a) (.ref (cl K 0)) = some false)) && (insB K (cl K 0) && ((decide (PySem.W.kitOne K (.ref (cl K 0)) (.type "bool") = some false)) && ((decide (PySem.W.kitOne K (.ref (cl K 0)) (.type "int") = some false)) && ((decide (PySem.W.kitOne K (.ref (cl K 0)) (.type "list") = some false)) && ((decide (PySem.W.kitOne K (.ref (cl K 0)) (.type "str") = some false)) && ((decide (PySem.W.kitOne K (.ref (cl K 0)) (.type "tuple") = some false)) && (eqB K (cl K 0) && true)))))))))
abbrev R : PySem.W.OpenRow := PySem.W.OpenLaw.row PySem.Challenge.rw_townpost_k01_terms_judged
abbrev hk : PySem.W.Hook := He.hookX 6 fa fn [] [] ex
def ob (s : PySem.W.SharedT) : He.AlX := He.obsX 6 fa fn [] [] ex (HandSHeadRun.getT s)
theorem ob_eq (s : PySem.W.SharedT) : ob s = hk.obs s.abs := He.obsX_eq (HandSHeadRun.getT_eq s)
abbrev loose : List PySem.Str := List.append [PySem.Str.ofString "is_integer", PySem.Str.ofString "is_within", PySem.Str.ofString "is_tuple_of", PySem.Str.ofString "TownError", PySem.Str.ofString "BadTown", PySem.Str.ofString "SIGNED", PySem.Str.ofString "SEALED", PySem.Str.ofString "SECRET", PySem.Str.ofString "MOST_NUMBER", PySem.Str.ofString "MOST_SECRET", PySem.Str.ofString "MOST_KEY", PySem.Str.ofString "MOST_SIGNS", PySem.Str.ofString "MOST_ROW", PySem.Str.ofString "MOST_DEEP", PySem.Str.ofString "MOST_PARTS", PySem.Str.ofString "is_string", PySem.Str.ofString "is_bare", PySem.Str.ofString "head_word", PySem.Str.ofString "is_shaped", PySem.Str.ofString "inner_of"] (List.append [PySem.Str.ofString "is_bounded", PySem.Str.ofString "is_term", PySem.Str.ofString "MOST_NODES", PySem.Str.ofString "MOST_WIRES", PySem.Str.ofString "LEAST_OWNER", PySem.Str.ofString "LEAST_SEAL", PySem.Str.ofString "is_owner", PySem.Str.ofString "are_wires", PySem.Str.ofString "Town", PySem.Str.ofString "_law_hand", PySem.Str.ofString "_law_draw", PySem.Str.ofString "_law_some", PySem.Str.ofString "_law_is_number", PySem.Str.ofString "_law_kind", PySem.Str.ofString "_law_within", PySem.Str.ofString "_law_is_term", PySem.Str.ofString "_law_word_drawn", PySem.Str.ofString "_law_leaf", PySem.Str.ofString "_law_key", PySem.Str.ofString "_law_term"] ([PySem.Str.ofString "_law_tower", PySem.Str.ofString "_law_sized", PySem.Str.ofString "_law_odd", PySem.Str.ofString "_law_bent", PySem.Str.ofString "_law_great", PySem.Str.ofString "_law_copied"]))
theorem run (w : World) : HandSHeadRun.RunEq R (PySem.W.view R.prog [51]) hk ob 6000 loose w := by
  intro os
  kernel_rfl
theorem glob_of {K : PySem.W.Frag} {h : Heap} {mg : Str → Option Value} (X : K.In h) (G : h.Ns mainGlobals mg) (c : He.SaysD fa fn K) (m : ex K = true) : Glob K mg (cl K) where
  n_abs := He.free_ok X G (c.fact 0 (f := .free "abs") rfl)
  n_all := He.free_ok X G (c.fact 1 (f := .free "all") rfl)
  n_bool := He.free_ok X G (c.fact 2 (f := .free "bool") rfl)
  n_int := He.free_ok X G (c.fact 3 (f := .free "int") rfl)
  n_isinstance := He.free_ok X G (c.fact 4 (f := .free "isinstance") rfl)
  n_len := He.free_ok X G (c.fact 5 (f := .free "len") rfl)
  n_list := He.free_ok X G (c.fact 6 (f := .free "list") rfl)
  n_min := He.free_ok X G (c.fact 7 (f := .free "min") rfl)
  n_range := He.free_ok X G (c.fact 8 (f := .free "range") rfl)
  n_str := He.free_ok X G (c.fact 9 (f := .free "str") rfl)
  n_tuple := He.free_ok X G (c.fact 10 (f := .free "tuple") rfl)
  c_LEAST_OWNER := He.int_ok X G (c.fact 11 (f := .int "LEAST_OWNER" 10) rfl)
  c_LEAST_SEAL := He.int_ok X G (c.fact 12 (f := .int "LEAST_SEAL" 100) rfl)
  c_MOST_DEEP := He.int_ok X G (c.fact 13 (f := .int "MOST_DEEP" 30) rfl)
  c_MOST_KEY := He.int_ok X G (c.fact 14 (f := .int "MOST_KEY" 999) rfl)
  c_MOST_NODES := He.int_ok X G (c.fact 15 (f := .int "MOST_NODES" 9) rfl)
  c_MOST_NUMBER := He.int_ok X G (c.fact 16 (f := .int "MOST_NUMBER" 999999999999) rfl)
  c_MOST_PARTS := He.int_ok X G (c.fact 17 (f := .int "MOST_PARTS" 5000) rfl)
  c_MOST_ROW := He.int_ok X G (c.fact 18 (f := .int "MOST_ROW" 60) rfl)
  c_MOST_SECRET := He.int_ok X G (c.fact 19 (f := .int "MOST_SECRET" 999999999) rfl)
  c_MOST_SIGNS := He.int_ok X G (c.fact 20 (f := .int "MOST_SIGNS" 40) rfl)
  c_MOST_WIRES := He.int_ok X G (c.fact 21 (f := .int "MOST_WIRES" 20) rfl)
  c_SEALED := He.str_ok X G (c.fact 22 (f := .str "SEALED" "sealed") rfl)
  c_SECRET := He.str_ok X G (c.fact 23 (f := .str "SECRET" "secret") rfl)
  c_SIGNED := He.str_ok X G (c.fact 24 (f := .str "SIGNED" "signed") rfl)
  g_Town := He.glo_ok X G (c.fact 25 (f := .glo "Town") rfl)
  cl0 := He.cls_ok (c.fact 26 (f := .cls "Town") rfl)
  hO0 := fun c hc => by (obtain rfl : c = 0 := by omega); exact of_decide_eq_true (He.ba m).1
  hk0 := fun a ha => of_decide_eq_true (List.all_eq_true.mp (He.ba (He.ba m).2).1 a ha)
  hI := fun c hc => by (obtain rfl : c = 0 := by omega); exact insB_ok (He.ba (He.ba (He.ba m).2).2).1 (He.cls_ok (c.fact 26 (f := .cls "Town") rfl))
  hK_bool := fun c hc => by (obtain rfl : c = 0 := by omega); exact of_decide_eq_true (He.ba (He.ba (He.ba (He.ba m).2).2).2).1
  hK_int := fun c hc => by (obtain rfl : c = 0 := by omega); exact of_decide_eq_true (He.ba (He.ba (He.ba (He.ba (He.ba m).2).2).2).2).1
  hK_list := fun c hc => by (obtain rfl : c = 0 := by omega); exact of_decide_eq_true (He.ba (He.ba (He.ba (He.ba (He.ba (He.ba m).2).2).2).2).2).1
  hK_str := fun c hc => by (obtain rfl : c = 0 := by omega); exact of_decide_eq_true (He.ba (He.ba (He.ba (He.ba (He.ba (He.ba (He.ba m).2).2).2).2).2).2).1
  hK_tuple := fun c hc => by (obtain rfl : c = 0 := by omega); exact of_decide_eq_true (He.ba (He.ba (He.ba (He.ba (He.ba (He.ba (He.ba (He.ba m).2).2).2).2).2).2).2).1
  na_loss := fun c hc => by (obtain rfl : c = 0 := by simpa using hc); exact ⟨He.cls_ok (c.fact 26 (f := .cls "Town") rfl), He.noat_ok (c.fact 60 (f := .noat "Town" "loss") rfl)⟩
  na_most := fun c hc => by (obtain rfl : c = 0 := by simpa using hc); exact ⟨He.cls_ok (c.fact 26 (f := .cls "Town") rfl), He.noat_ok (c.fact 61 (f := .noat "Town" "most") rfl)⟩
  na_nodes := fun c hc => by (obtain rfl : c = 0 := by simpa using hc); exact ⟨He.cls_ok (c.fact 26 (f := .cls "Town") rfl), He.noat_ok (c.fact 62 (f := .noat "Town" "nodes") rfl)⟩
  na_root := fun c hc => by (obtain rfl : c = 0 := by simpa using hc); exact ⟨He.cls_ok (c.fact 26 (f := .cls "Town") rfl), He.noat_ok (c.fact 63 (f := .noat "Town" "root") rfl)⟩
  na_wires := fun c hc => by (obtain rfl : c = 0 := by simpa using hc); exact ⟨He.cls_ok (c.fact 26 (f := .cls "Town") rfl), He.noat_ok (c.fact 64 (f := .noat "Town" "wires") rfl)⟩
  d_Town_all_parts := by obtain ⟨fd, F⟩ := c.def_ 0 (d := dd_Town_all_parts) rfl; exact ⟨_, fd, F, He.meth_ok (c.fact 27 (f := .meth "Town" "all_parts") rfl)⟩
  d_Town_eq := by obtain ⟨fd, F⟩ := c.def_ 1 (d := dd_Town_eq) rfl; exact ⟨_, fd, F, eqB_ok (He.ba (He.ba (He.ba (He.ba (He.ba (He.ba (He.ba (He.ba (He.ba m).2).2).2).2).2).2).2).2).1 (He.meth_ok (c.fact 28 (f := .meth "Town" "__eq__") rfl))⟩
  d__law_draw := by obtain ⟨fd, F⟩ := c.def_ 2 (d := dd__law_draw) rfl; exact ⟨_, fd, F, He.glo_ok X G (c.fact 29 (f := .glo "_law_draw") rfl)⟩
  d_is_tuple_of := by obtain ⟨fd, F⟩ := c.def_ 3 (d := dd_is_tuple_of) rfl; exact ⟨_, fd, F, He.glo_ok X G (c.fact 30 (f := .glo "is_tuple_of") rfl)⟩
  d_is_integer := by obtain ⟨fd, F⟩ := c.def_ 4 (d := dd_is_integer) rfl; exact ⟨_, fd, F, He.glo_ok X G (c.fact 31 (f := .glo "is_integer") rfl)⟩
  d_is_within := by obtain ⟨fd, F⟩ := c.def_ 5 (d := dd_is_within) rfl; exact ⟨_, fd, F, He.glo_ok X G (c.fact 32 (f := .glo "is_within") rfl)⟩
  d_are_wires := by obtain ⟨fd, F⟩ := c.def_ 6 (d := dd_are_wires) rfl; exact ⟨_, fd, F, He.glo_ok X G (c.fact 33 (f := .glo "are_wires") rfl)⟩
  d_is_owner := by obtain ⟨fd, F⟩ := c.def_ 7 (d := dd_is_owner) rfl; exact ⟨_, fd, F, He.glo_ok X G (c.fact 34 (f := .glo "is_owner") rfl)⟩
  d_Town_init := by obtain ⟨fd, F⟩ := c.def_ 8 (d := dd_Town_init) rfl; exact ⟨_, fd, F, He.mkr_ok (c.fact 35 (f := .mkr "Town") rfl)⟩
  d__law_some := by obtain ⟨fd, F⟩ := c.def_ 9 (d := dd__law_some) rfl; exact ⟨_, fd, F, He.glo_ok X G (c.fact 36 (f := .glo "_law_some") rfl)⟩
  d__law_odd := by obtain ⟨fd, F⟩ := c.def_ 10 (d := dd__law_odd) rfl; exact ⟨_, fd, F, He.glo_ok X G (c.fact 37 (f := .glo "_law_odd") rfl)⟩
  d__law_bent := by obtain ⟨fd, F⟩ := c.def_ 11 (d := dd__law_bent) rfl; exact ⟨_, fd, F, He.glo_ok X G (c.fact 38 (f := .glo "_law_bent") rfl)⟩
  d__law_copied := by obtain ⟨fd, F⟩ := c.def_ 12 (d := dd__law_copied) rfl; exact ⟨_, fd, F, He.glo_ok X G (c.fact 39 (f := .glo "_law_copied") rfl)⟩
  d__law_sized := by obtain ⟨fd, F⟩ := c.def_ 13 (d := dd__law_sized) rfl; exact ⟨_, fd, F, He.glo_ok X G (c.fact 40 (f := .glo "_law_sized") rfl)⟩
  d__law_key := by obtain ⟨fd, F⟩ := c.def_ 14 (d := dd__law_key) rfl; exact ⟨_, fd, F, He.glo_ok X G (c.fact 41 (f := .glo "_law_key") rfl)⟩
  d__law_word_drawn := by obtain ⟨fd, F⟩ := c.def_ 15 (d := dd__law_word_drawn) rfl; exact ⟨_, fd, F, He.glo_ok X G (c.fact 42 (f := .glo "_law_word_drawn") rfl)⟩
  d__law_leaf := by obtain ⟨fd, F⟩ := c.def_ 16 (d := dd__law_leaf) rfl; exact ⟨_, fd, F, He.glo_ok X G (c.fact 43 (f := .glo "_law_leaf") rfl)⟩
  d__law_term := by obtain ⟨fd, F⟩ := c.def_ 17 (d := dd__law_term) rfl; exact ⟨_, fd, F, He.glo_ok X G (c.fact 44 (f := .glo "_law_term") rfl)⟩
  d__law_tower := by obtain ⟨fd, F⟩ := c.def_ 18 (d := dd__law_tower) rfl; exact ⟨_, fd, F, He.glo_ok X G (c.fact 45 (f := .glo "_law_tower") rfl)⟩
  d__law_great := by obtain ⟨fd, F⟩ := c.def_ 19 (d := dd__law_great) rfl; exact ⟨_, fd, F, He.glo_ok X G (c.fact 46 (f := .glo "_law_great") rfl)⟩
  d__law_hand := by obtain ⟨fd, F⟩ := c.def_ 20 (d := dd__law_hand) rfl; exact ⟨_, fd, F, He.glo_ok X G (c.fact 47 (f := .glo "_law_hand") rfl)⟩
  d__law_is_number := by obtain ⟨fd, F⟩ := c.def_ 21 (d := dd__law_is_number) rfl; exact ⟨_, fd, F, He.glo_ok X G (c.fact 48 (f := .glo "_law_is_number") rfl)⟩
  d__law_kind := by obtain ⟨fd, F⟩ := c.def_ 22 (d := dd__law_kind) rfl; exact ⟨_, fd, F, He.glo_ok X G (c.fact 49 (f := .glo "_law_kind") rfl)⟩
  d__law_within := by obtain ⟨fd, F⟩ := c.def_ 23 (d := dd__law_within) rfl; exact ⟨_, fd, F, He.glo_ok X G (c.fact 50 (f := .glo "_law_within") rfl)⟩
  d__law_is_term := by obtain ⟨fd, F⟩ := c.def_ 24 (d := dd__law_is_term) rfl; exact ⟨_, fd, F, He.glo_ok X G (c.fact 51 (f := .glo "_law_is_term") rfl)⟩
  d_head_word := by obtain ⟨fd, F⟩ := c.def_ 25 (d := dd_head_word) rfl; exact ⟨_, fd, F, He.glo_ok X G (c.fact 52 (f := .glo "head_word") rfl)⟩
  d_inner_of := by obtain ⟨fd, F⟩ := c.def_ 26 (d := dd_inner_of) rfl; exact ⟨_, fd, F, He.glo_ok X G (c.fact 53 (f := .glo "inner_of") rfl)⟩
  d_is_string := by obtain ⟨fd, F⟩ := c.def_ 27 (d := dd_is_string) rfl; exact ⟨_, fd, F, He.glo_ok X G (c.fact 54 (f := .glo "is_string") rfl)⟩
  d_is_bare := by obtain ⟨fd, F⟩ := c.def_ 28 (d := dd_is_bare) rfl; exact ⟨_, fd, F, He.glo_ok X G (c.fact 55 (f := .glo "is_bare") rfl)⟩
  d_is_shaped := by obtain ⟨fd, F⟩ := c.def_ 29 (d := dd_is_shaped) rfl; exact ⟨_, fd, F, He.glo_ok X G (c.fact 56 (f := .glo "is_shaped") rfl)⟩
  d_is_bounded := by obtain ⟨fd, F⟩ := c.def_ 30 (d := dd_is_bounded) rfl; exact ⟨_, fd, F, He.glo_ok X G (c.fact 57 (f := .glo "is_bounded") rfl)⟩
  d_is_term := by obtain ⟨fd, F⟩ := c.def_ 31 (d := dd_is_term) rfl; exact ⟨_, fd, F, He.glo_ok X G (c.fact 58 (f := .glo "is_term") rfl)⟩
  d_law := by obtain ⟨fd, F⟩ := c.def_ 32 (d := dd_law) rfl; exact ⟨_, fd, F, He.glo_ok X G (c.fact 59 (f := .glo "law") rfl)⟩
theorem facts {P : Program} {w : World} {K : PySem.W.Frag} {h : Heap} {mg : Str → Option Value} {f : Addr} (X : K.In h) (G : h.Ns mainGlobals mg) (hfa : mg ("law" : Str) = some (.ref f)) (c : He.SaysD fa fn K) (m : ex K = true) :
    ∃ fd : FuncData, (∀ (s : Shared) (v : Value), BindsTo s fd ⟨[v], []⟩ [("script", v)]) ∧ ∀ base : Heap, K.In base → base.Ns mainGlobals mg → FnOk P w K mg base (L2.CX P w) 47 f fd ["script"] (spD K (cl K) 1 f_law) := by
  have Z := glob_of X G c m
  obtain ⟨f', fd, F, hm⟩ := Z.d_law
  have e := hfa.symm.trans hm
  cases e
  have b := FunD.bindsA (ps := ["script"]) F fun _ _ _ _ _ _ us hl => match us, hl with | [_], _ => rfl
  exact ⟨fd, fun s v => b s [v] rfl, fun base _ _ => ok_law Z F⟩
end K01
open PySem PySem.W PySem.Calls PyProof.Rows
/-- the law, of its plain form -/
theorem K01.holds_of (hp : ∀ ns : List Int, ns.length ≤ 63 → (∀ z ∈ ns, Builtin.Int.intBits z ≤ 1048576) → ∃ S, K01.f_law [.fro (ns.map DL.D.int)] [] = .ok (.bl true) S) : PySem.Challenge.rw_townpost_k01_terms_judged.Holds := by
  w_on; o_law
  refine HandSHeadRun.head_any (r := OpenLaw.row PySem.Challenge.rw_townpost_k01_terms_judged) (q := view (OpenLaw.row PySem.Challenge.rw_townpost_k01_terms_judged).prog [51]) (H := K01.hk) (ob := K01.ob) (M := 6000) (loose := K01.loose) (d := HandSHeadRun.topDef (OpenLaw.row PySem.Challenge.rw_townpost_k01_terms_judged).prog 51) (kwd := []) K01.ob_eq
    (by kernel_rfl) (fun s => by kernel_rfl) K01.run (by kernel_rfl) (by kernel_rfl) (by kernel_rfl) (by rfl) (by first | assumption | decide +kernel) (by decide +kernel) ⟨rfl, rfl, rfl, rfl, rfl, by decide +kernel⟩ ?hw ?hc
  case hw => w_witness2
  case hc =>
    refine DL.walk_dl (l := PySem.Challenge.rw_townpost_k01_terms_judged) (n := 63) (k := 47) (x := "script") rfl (by decide) (by kernel_rfl) ⟨rfl, by decide, by decide⟩ ?F
    intro w mg fa h Y G hmg0
    obtain ⟨K, KX, c⟩ := Y
    have hmg : mg ("law" : PySem.Str) = some (.ref fa) := by
      have e : (HandSHeadRun.topDef (OpenLaw.row PySem.Challenge.rw_townpost_k01_terms_judged).prog 51).name = ("law" : PySem.Str) := by kernel_rfl
      rw [← e]
      exact hmg0
    obtain ⟨fd, hb, hF⟩ := K01.facts (P := (PySem.Challenge.rw_townpost_k01_terms_judged).prog) (w := w) KX G hmg c.t.d c.more
    exact ⟨K, fd, _, KX, hb, fun H a ns hl hbits hO hS => DL.law_sp hp hl hbits hO hS, hF⟩

set_option maxRecDepth 100000 in
set_option maxHeartbeats 8000000 in
theorem PySem.Challenge.cw_townpost_k01_terms_judged_holds : PySem.Challenge.rw_townpost_k01_terms_judged.Holds := by
  exact K01.holds_of fun ns _ _ => K01.plain ns
