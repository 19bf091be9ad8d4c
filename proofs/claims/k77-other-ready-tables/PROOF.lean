import PyProof.Rows.All
import Wide.All
import OpenK.AllK
import Wide.FinOn
import HandS.ForMost
import HandS.Exc
import HandS.Conv
import KE.DataEq
import KE.DataCmp
import KE.SortData
import KE.DataAny
import KE.DataMinMax
import KE.DataIsa
import HandS.TupAny
import HandS.TupMul
import HandS.Star
import HandS.TupLe
import HandS.Small
import HandS.Style
import HandS.IsInst
import HandS.WordsDict
import KE.KDictPairs
import HandS.SortInts
import HandS.Zip
import KE.GoesEnum
import HandS.SetBool
import HandS.Strs
import KE.KExcIs
import HandS.ExcField
import HandS.ExcInit
import HandS.ExcIs
import HandS.Defaults
import HandS.HeadHook2
import HandS.Ends
import HandS.HeadEnd
import HandS.Head0
import HandS.Head1
import HandS.Head2
import HandS.HeadHook1
import PySem.Challenge.RW_holepartner_k77_other_ready_tables
set_option Elab.async false
set_option linter.all false
set_option maxRecDepth 100000
set_option maxHeartbeats 2000000
namespace HP
open PySem PySem.Spec PyProof.Rows L2

/-! ### values of the evaluator, its store, its answers -/
inductive PV where
  | non
  | bl (b : Bool)
  | int (i : Int)
  | str (s : List Nat)
  | tup (xs : List PV)
  | lst (xs : List PV)
  | dct (kvs : List (PV × PV))
  | scr (ns : List Int)
  | ref (n : Nat)
inductive MO where
  | lst (xs : List PV)
  | dct (kvs : List (PV × PV))
  /-- a dict while it is walked -/
  | lck (kvs : List (PV × PV))
abbrev Mem := List MO
abbrev PSt := List (Option PV)
inductive R (α : Type) where
  | ok (a : α) (m : Mem)
  | exc (c : Nat) (x : PV) (m : Mem)
  | bad
def R.bind {α β : Type} (r : R α) (f : α → Mem → R β) : R β :=
  match r with
  | .ok a m => f a m
  | .exc c x m => .exc c x m
  | .bad => .bad

/-! ### what a value stands for -/
def kList (K : PySem.W.Frag) (a : Addr) (xs : List V) : Prop :=
  ∃ (o : Obj) (its : Array Value) (n : Nat), K.lookup a = some o ∧ o.cls = .type "list" ∧ o.dict = none ∧ o.data = .seq its n ∧ its.size ≤ sizeLine ∧ Vals xs its.toList
def keyP : PV → Option Key
  | .int i => some (.inl i)
  | .str s => some (.inr ⟨s.toArray⟩)
  | _ => none
/-- the store's addresses, and those that nobody holds as yet (a list that a comprehension is making) -/
structure Rho where
  st : List Addr
  hid : List Addr
def Rho.all (ρ : Rho) : List Addr := ρ.st ++ ρ.hid
def Rho.push (ρ : Rho) (p : Addr) : Rho := ⟨ρ.st ++ [p], ρ.hid⟩
def Rho.hide (ρ : Rho) (p : Addr) : Rho := ⟨ρ.st, p :: ρ.hid⟩
theorem Rho.not_all {ρ : Rho} {a : Addr} : a ∉ ρ.all ↔ a ∉ ρ.st ∧ a ∉ ρ.hid := by
  rw [Rho.all, List.mem_append]
  exact ⟨fun h => ⟨fun z => h (.inl z), fun z => h (.inr z)⟩, fun h z => z.elim h.1 h.2⟩
theorem Rho.not_st {ρ : Rho} {a : Addr} (h : a ∉ ρ.all) : a ∉ ρ.st := (Rho.not_all.mp h).1
mutual
inductive Rep (K : PySem.W.Frag) (ρ : Rho) (H : Hp) : PV → V → Prop
  | non : Rep K ρ H .non .non
  | bl (b : Bool) : Rep K ρ H (.bl b) (.bl b)
  | int (i : Int) : Rep K ρ H (.int i) (.int i)
  | str (s : List Nat) : Rep K ρ H (.str s) (.str ⟨s.toArray⟩)
  | tup {a : Addr} {o : Obj} {xs : List PV} {vs : List V} : a ∉ ρ.all → H a = some (.frz o (.tup vs)) → o.dict = none → RepL K ρ H xs vs → Rep K ρ H (.tup xs) (.ref a)
  | lst {a : Addr} {xs : List PV} {vs : List V} : a ∉ ρ.all → H a = some (.lst vs) → RepL K ρ H xs vs → Rep K ρ H (.lst xs) (.ref a)
  | dct {a : Addr} {kvs : List (PV × PV)} {ks : List (Key × V)} : a ∉ ρ.all → Rd H a (.dK ks) → RepK K ρ H kvs ks → Rep K ρ H (.dct kvs) (.ref a)
  | scr {a : Addr} {ns : List Int} : a ∉ ρ.all → Rd H a (.lst (ns.map V.int)) → Rep K ρ H (.scr ns) (.ref a)
  | scrK {a : Addr} {ns : List Int} : kList K a (ns.map V.int) → Rep K ρ H (.scr ns) (.ref a)
  | ref {n : Nat} {a : Addr} : ρ.st[n]? = some a → Rep K ρ H (.ref n) (.ref a)
inductive RepL (K : PySem.W.Frag) (ρ : Rho) (H : Hp) : List PV → List V → Prop
  | nil : RepL K ρ H [] []
  | cons {p : PV} {v : V} {ps : List PV} {vs : List V} : Rep K ρ H p v → RepL K ρ H ps vs → RepL K ρ H (p :: ps) (v :: vs)
inductive RepK (K : PySem.W.Frag) (ρ : Rho) (H : Hp) : List (PV × PV) → List (Key × V) → Prop
  | nil : RepK K ρ H [] []
  | cons {p q : PV} {k : Key} {v : V} {ps : List (PV × PV)} {vs : List (Key × V)} : keyP p = some k → Rep K ρ H q v → RepK K ρ H ps vs → RepK K ρ H ((p, q) :: ps) ((k, v) :: vs)
end

/-- from one moment to a later one: new addresses, all but the store's objects stand -/
structure Step (ρ : Rho) (H : Hp) (ρ' : Rho) (H' : Hp) : Prop where
  pre : ∃ new, ρ'.st = ρ.st ++ new ∧ ∀ a ∈ new, a ∉ ρ.st → H a = none
  hid : ρ'.hid = ρ.hid
  keep : ∀ a o, a ∉ ρ.st → H a = some o → H' a = some o ∨ (a ∉ ρ.hid ∧ ∃ od ks, o = .dK ks ∧ H' a = some (.frz od o))
  frz : ∀ a o u, H a = some (.frz o u) → H' a = some (.frz o u)
/-- all but a dict stands -/
theorem Step.keeps {ρ ρ' : Rho} {H H' : Hp} (s : Step ρ H ρ' H') {a : Addr} {o : HO} (n : a ∉ ρ.st) (e : H a = some o) (h : ∀ ks, o ≠ .dK ks) : H' a = some o := by
  rcases s.keep a o n e with q | ⟨_, od, ks, q, _⟩
  · exact q
  · exact absurd q (h ks)
theorem Step.isSome {ρ ρ' : Rho} {H H' : Hp} (s : Step ρ H ρ' H') {a : Addr} {o : HO} (n : a ∉ ρ.st) (e : H a = some o) : ∃ o, H' a = some o := by
  rcases s.keep a o n e with q | ⟨_, od, ks, _, q⟩
  · exact ⟨_, q⟩
  · exact ⟨_, q⟩
theorem Step.dk {ρ ρ' : Rho} {H H' : Hp} (s : Step ρ H ρ' H') {a : Addr} {ks : List (Key × V)} (n : a ∉ ρ.st) (e : Rd H a (.dK ks)) : Rd H' a (.dK ks) := by
  rcases e with e | ⟨o, e⟩
  · rcases s.keep a _ n e with q | ⟨_, od, _, _, q⟩
    · exact .inl q
    · exact .inr ⟨od, q⟩
  · exact .inr ⟨o, s.frz _ _ _ e⟩
theorem Step.refl {ρ : Rho} {H : Hp} : Step ρ H ρ H := ⟨⟨[], by simp, by simp⟩, rfl, fun _ _ _ e => .inl e, fun _ _ _ e => e⟩
theorem Step.notst {ρ ρ' : Rho} {H H' : Hp} (s : Step ρ H ρ' H') {a : Addr} {o : HO} (n : a ∉ ρ.st) (e : H a = some o) : a ∉ ρ'.st := by
  obtain ⟨new, e', hn⟩ := s.pre
  rw [e']
  intro hm
  rcases List.mem_append.mp hm with h | h
  · exact n h
  · rw [hn a h n] at e; cases e
theorem Step.notin {ρ ρ' : Rho} {H H' : Hp} (s : Step ρ H ρ' H') {a : Addr} {o : HO} (n : a ∉ ρ.all) (e : H a = some o) : a ∉ ρ'.all := by
  obtain ⟨n1, n2⟩ := Rho.not_all.mp n
  exact Rho.not_all.mpr ⟨s.notst n1 e, by rw [s.hid]; exact n2⟩
theorem Step.get {ρ ρ' : Rho} {H H' : Hp} (s : Step ρ H ρ' H') {n : Nat} {a : Addr} (e : ρ.st[n]? = some a) : ρ'.st[n]? = some a := by
  obtain ⟨new, e', _⟩ := s.pre
  rw [e']
  have hl : n < ρ.st.length := (List.getElem?_eq_some_iff.mp e).1
  rw [List.getElem?_append_left hl]; exact e
mutual
theorem Rep.step {K : PySem.W.Frag} {ρ ρ' : Rho} {H H' : Hp} (s : Step ρ H ρ' H') : ∀ {p : PV} {v : V}, Rep K ρ H p v → Rep K ρ' H' p v
  | _, _, .non => .non
  | _, _, .bl b => .bl b
  | _, _, .int i => .int i
  | _, _, .str x => .str x
  | _, _, .tup n e d r => .tup (s.notin n e) (s.frz _ _ _ e) d (RepL.step s r)
  | _, _, .lst n e r => .lst (s.notin n e) (s.keeps (Rho.not_st n) e fun _ z => nomatch z) (RepL.step s r)
  | _, _, .dct n e r => .dct (e.elim (fun e => s.notin n e) fun ⟨_, e⟩ => s.notin n e) (s.dk (Rho.not_st n) e) (RepK.step s r)
  | _, _, .scr n e => by
    rcases e with e | ⟨o, e⟩
    · exact .scr (s.notin n e) (.inl (s.keeps (Rho.not_st n) e fun _ z => nomatch z))
    · exact .scr (s.notin n e) (.inr ⟨o, s.frz _ _ _ e⟩)
  | _, _, .scrK h => .scrK h
  | _, _, .ref e => .ref (s.get e)
theorem RepL.step {K : PySem.W.Frag} {ρ ρ' : Rho} {H H' : Hp} (s : Step ρ H ρ' H') : ∀ {p : List PV} {v : List V}, RepL K ρ H p v → RepL K ρ' H' p v
  | _, _, .nil => .nil
  | _, _, .cons h r => .cons (Rep.step s h) (RepL.step s r)
theorem RepK.step {K : PySem.W.Frag} {ρ ρ' : Rho} {H H' : Hp} (s : Step ρ H ρ' H') : ∀ {p : List (PV × PV)} {v : List (Key × V)}, RepK K ρ H p v → RepK K ρ' H' p v
  | _, _, .nil => .nil
  | _, _, .cons e h r => .cons e (Rep.step s h) (RepK.step s r)
end
theorem Step.trans {ρ ρ1 ρ2 : Rho} {H H1 H2 : Hp} (s : Step ρ H ρ1 H1) (t : Step ρ1 H1 ρ2 H2) : Step ρ H ρ2 H2 := by
  obtain ⟨n1, e1, h1⟩ := id s.pre
  obtain ⟨n2, e2, h2⟩ := t.pre
  refine ⟨⟨n1 ++ n2, by rw [e2, e1, List.append_assoc], fun a ha hr => ?_⟩, t.hid.trans s.hid, fun a o n e => ?_, fun a o u e => t.frz a o u (s.frz a o u e)⟩
  case refine_2 =>
    rcases s.keep a o n e with q | ⟨nh, od, ks, rfl, q⟩
    · rcases t.keep a o (s.notst n e) q with q | ⟨nh, q⟩
      · exact .inl q
      · exact .inr ⟨by rw [← s.hid]; exact nh, q⟩
    · exact .inr ⟨nh, od, ks, rfl, t.frz _ _ _ q⟩
  rcases List.mem_append.mp ha with h | h
  · exact h1 a h hr
  · cases q : H a with
    | none => rfl
    | some o =>
      obtain ⟨o', z⟩ := s.isSome hr q
      rw [h2 a h (s.notst hr q)] at z; cases z
theorem Step.len {ρ ρ' : Rho} {H H' : Hp} (s : Step ρ H ρ' H') : ρ.st.length ≤ ρ'.st.length := by
  obtain ⟨new, e, _⟩ := s.pre
  rw [e, List.length_append]; omega

/-! ### the store -/
inductive MRep (K : PySem.W.Frag) (ρ : Rho) (H : Hp) : MO → Addr → Prop
  | lst {a : Addr} {xs : List PV} {vs : List V} : H a = some (.lst vs) → RepL K ρ H xs vs → MRep K ρ H (.lst xs) a
  | dct {a : Addr} {kvs : List (PV × PV)} {ks : List (Key × V)} : H a = some (.dK ks) → RepK K ρ H kvs ks → MRep K ρ H (.dct kvs) a
  | lck {a : Addr} {o : Obj} {kvs : List (PV × PV)} {ks : List (Key × V)} : H a = some (.frz o (.dK ks)) → RepK K ρ H kvs ks → MRep K ρ H (.lck kvs) a
theorem nodup_at {ρ : List Addr} (hN : ρ.Nodup) {i j : Nat} {x : Addr} (a : ρ[i]? = some x) (b : ρ[j]? = some x) : i = j := by
  obtain ⟨h1, e1⟩ := List.getElem?_eq_some_iff.mp a
  obtain ⟨h2, e2⟩ := List.getElem?_eq_some_iff.mp b
  exact (List.getElem_inj hN).mp (e1.trans e2.symm)
structure MemOk (K : PySem.W.Frag) (ρ : Rho) (H : Hp) (μ : Mem) : Prop where
  nd : ρ.st.Nodup
  len : ρ.st.length = μ.length
  all : ∀ (i : Nat) (a : Addr), ρ.st[i]? = some a → ∃ mo, μ[i]? = some mo ∧ MRep K ρ H mo a
  hid : ∀ a ∈ ρ.hid, a ∉ ρ.st ∧ ∃ o, H a = some o
theorem MRep.isSome {K : PySem.W.Frag} {ρ : Rho} {H : Hp} {mo : MO} {a : Addr} (h : MRep K ρ H mo a) : ∃ o, H a = .some o := by
  cases h with
  | lst e _ => exact ⟨_, e⟩
  | dct e _ => exact ⟨_, e⟩
  | lck e _ => exact ⟨_, e⟩
theorem MemOk.isSome {K : PySem.W.Frag} {ρ : Rho} {H : Hp} {μ : Mem} (m : MemOk K ρ H μ) {a : Addr} (h : a ∈ ρ.st) : ∃ o, H a = .some o := by
  obtain ⟨i, hi⟩ := List.getElem?_of_mem h
  obtain ⟨mo, _, r⟩ := m.all i a hi
  exact r.isSome
theorem MemOk.notin {K : PySem.W.Frag} {ρ : Rho} {H : Hp} {μ : Mem} (m : MemOk K ρ H μ) {a : Addr} (h : H a = none) : a ∉ ρ.all := by
  refine Rho.not_all.mpr ⟨fun z => ?_, fun z => ?_⟩
  · obtain ⟨o, e⟩ := m.isSome z
    rw [h] at e; cases e
  · obtain ⟨_, o, e⟩ := m.hid a z
    rw [h] at e; cases e
theorem MRep.step {K : PySem.W.Frag} {ρ ρ' : Rho} {H H' : Hp} {mo : MO} {a : Addr} (s : Step ρ H ρ' H') (e : H' a = H a) (h : MRep K ρ H mo a) : MRep K ρ' H' mo a := by
  cases h with
  | lst x r => exact .lst (e.trans x) (r.step s)
  | dct x r => exact .dct (e.trans x) (r.step s)
  | lck x r => exact .lck (e.trans x) (r.step s)
theorem MemOk.hids {K : PySem.W.Frag} {ρ ρ' : Rho} {H H' : Hp} {μ : Mem} (m : MemOk K ρ H μ) (s : Step ρ H ρ' H') : ∀ a ∈ ρ'.hid, a ∉ ρ'.st ∧ ∃ o, H' a = some o := fun a ha => by
  rw [s.hid] at ha
  obtain ⟨n, o, e⟩ := m.hid a ha
  exact ⟨s.notst n e, s.isSome n e⟩
/-- a new object outside of the store -/
theorem step_new {ρ : Rho} {H : Hp} {p : Addr} {o : HO} (hn : H p = none) : Step ρ H ρ (upd H p o) :=
  ⟨⟨[], by simp, by simp⟩, rfl, fun a u _ e => .inl (by rw [upd_ne (ne_of_none e hn)]; exact e), fun a o u e => by rw [upd_ne (ne_of_none e hn)]; exact e⟩
theorem MemOk.new {K : PySem.W.Frag} {ρ : Rho} {H : Hp} {μ : Mem} {p : Addr} {o : HO} (m : MemOk K ρ H μ) (hn : H p = none) : MemOk K ρ (upd H p o) μ :=
  ⟨m.nd, m.len, fun i a e => by
    obtain ⟨mo, e1, r⟩ := m.all i a e
    obtain ⟨u, eu⟩ := r.isSome
    exact ⟨mo, e1, r.step (step_new hn) (upd_ne (ne_of_none eu hn))⟩, m.hids (step_new hn)⟩
/-- a new object of the store -/
theorem step_push {ρ : Rho} {H : Hp} {p : Addr} {o : HO} (hn : H p = none) : Step ρ H (ρ.push p) (upd H p o) :=
  ⟨⟨[p], rfl, fun a ha _ => by rw [List.mem_singleton.mp ha]; exact hn⟩, rfl, fun a u _ e => .inl (by rw [upd_ne (ne_of_none e hn)]; exact e), fun a o u e => by rw [upd_ne (ne_of_none e hn)]; exact e⟩
theorem MemOk.push {K : PySem.W.Frag} {ρ : Rho} {H : Hp} {μ : Mem} {p : Addr} {o : HO} {mo : MO} (m : MemOk K ρ H μ) (hn : H p = none) (h : MRep K (ρ.push p) (upd H p o) mo p) : MemOk K (ρ.push p) (upd H p o) (μ ++ [mo]) := by
  refine ⟨?_, by simp [Rho.push, m.len], fun i a e => ?_, m.hids (step_push hn)⟩
  · rw [Rho.push, List.nodup_append]
    refine ⟨m.nd, by simp, fun a ha b hb => ?_⟩
    rw [List.mem_singleton.mp hb]
    intro z; subst z
    exact Rho.not_st (m.notin hn) ha
  · by_cases hi : i < ρ.st.length
    · rw [Rho.push, List.getElem?_append_left hi] at e
      obtain ⟨mo', e1, r⟩ := m.all i a e
      obtain ⟨u, eu⟩ := r.isSome
      refine ⟨mo', ?_, r.step (step_push hn) (upd_ne (ne_of_none eu hn))⟩
      rw [List.getElem?_append_left (by rw [← m.len]; exact hi)]; exact e1
    · have hi' : ρ.st.length ≤ i := Nat.le_of_not_lt hi
      rw [Rho.push, List.getElem?_append_right hi'] at e
      have h0 : i - ρ.st.length = 0 := by
        have h2 := (List.getElem?_eq_some_iff.mp e).1
        simp at h2; omega
      rw [h0] at e
      have ea : p = a := by simpa using e
      subst ea
      refine ⟨mo, ?_, h⟩
      rw [List.getElem?_append_right (by rw [← m.len]; exact hi'), ← m.len, h0]; rfl
/-- an object of the store is changed -/
theorem step_set {ρ : Rho} {H : Hp} {p : Addr} {o : HO} (hp : p ∈ ρ.st) (nf : ∀ o u, H p ≠ some (.frz o u)) : Step ρ H ρ (upd H p o) :=
  ⟨⟨[], by simp, by simp⟩, rfl, fun a u n e => .inl (by rw [upd_ne (fun z => n (by rw [z]; exact hp))]; exact e), fun a o u e => by rw [upd_ne (fun z => nf o u (by rw [← z]; exact e))]; exact e⟩
theorem MemOk.set {K : PySem.W.Frag} {ρ : Rho} {H : Hp} {μ : Mem} {p : Addr} {n : Nat} {o : HO} {mo : MO} (m : MemOk K ρ H μ) (hp : ρ.st[n]? = some p) (nf : ∀ o u, H p ≠ some (.frz o u)) (h : MRep K ρ (upd H p o) mo p) : MemOk K ρ (upd H p o) (μ.set n mo) := by
  have hm : p ∈ ρ.st := List.mem_of_getElem? hp
  have hl : n < μ.length := by rw [← m.len]; exact (List.getElem?_eq_some_iff.mp hp).1
  refine ⟨m.nd, by rw [List.length_set]; exact m.len, fun i a e => ?_, m.hids (step_set hm nf)⟩
  by_cases hi : i = n
  · subst hi
    rw [hp] at e; cases e
    exact ⟨mo, by rw [List.getElem?_set_self hl], h⟩
  · obtain ⟨mo', e1, r⟩ := m.all i a e
    have ne : a ≠ p := fun z => by
      subst z
      exact hi (nodup_at m.nd e hp)
    exact ⟨mo', by rw [List.getElem?_set_ne (fun z => hi z.symm)]; exact e1, r.step (step_set hm nf) (upd_ne ne)⟩

/-! ### the names' values -/
abbrev VSt := L2.St
inductive StR (K : PySem.W.Frag) (ρ : Rho) (H : Hp) : PSt → L2.St → Prop
  | nil : StR K ρ H [] []
  | no {v : Option V} {ps : PSt} {vs : L2.St} : StR K ρ H ps vs → StR K ρ H (none :: ps) (v :: vs)
  | so {p : PV} {v : V} {ps : PSt} {vs : L2.St} : Rep K ρ H p v → StR K ρ H ps vs → StR K ρ H (some p :: ps) (some v :: vs)
section
variable {K : PySem.W.Frag} {ρ ρ' : Rho} {H H' : Hp}
theorem StR.step (s : Step ρ H ρ' H') : ∀ {ps : PSt} {vs : L2.St}, StR K ρ H ps vs → StR K ρ' H' ps vs
  | _, _, .nil => .nil
  | _, _, .no r => .no (r.step s)
  | _, _, .so h r => .so (h.step s) (r.step s)
theorem StR.get : ∀ {ps : PSt} {vs : L2.St} {i : Nat} {p : PV}, StR K ρ H ps vs → ps[i]? = some (some p) → ∃ v, vs[i]? = some (some v) ∧ Rep K ρ H p v
  | _, _, i, p, .nil, e => by simp at e
  | _, _, 0, p, .no r, e => by simp at e
  | _, _, 0, p, .so h r, e => by
    rw [List.getElem?_cons_zero] at e
    cases e
    exact ⟨_, rfl, h⟩
  | _, _, i + 1, p, .no r, e => by
    obtain ⟨v, e1, h⟩ := r.get (i := i) (p := p) (by simpa using e)
    exact ⟨v, by simpa using e1, h⟩
  | _, _, i + 1, p, .so _ r, e => by
    obtain ⟨v, e1, h⟩ := r.get (i := i) (p := p) (by simpa using e)
    exact ⟨v, by simpa using e1, h⟩
theorem StR.set {p : PV} {v : V} (h : Rep K ρ H p v) : ∀ {ps : PSt} {vs : L2.St} (i : Nat), StR K ρ H ps vs → StR K ρ H (ps.set i (some p)) (vs.set i (some v))
  | _, _, _, .nil => .nil
  | _, _, 0, .no r => .so h r
  | _, _, 0, .so _ r => .so h r
  | _, _, i + 1, .no r => .no (StR.set h i r)
  | _, _, i + 1, .so q r => .so q (StR.set h i r)
theorem StR.clear : ∀ {ps : PSt} {vs : L2.St} (i : Nat) (v : Option V), StR K ρ H ps vs → StR K ρ H (ps.set i none) (vs.set i v)
  | _, _, _, _, .nil => .nil
  | _, _, 0, _, .no r => .no r
  | _, _, 0, _, .so _ r => .no r
  | _, _, i + 1, v, .no r => .no (StR.clear i v r)
  | _, _, i + 1, v, .so q r => .so q (StR.clear i v r)
theorem StR.length : ∀ {ps : PSt} {vs : L2.St}, StR K ρ H ps vs → ps.length = vs.length
  | _, _, .nil => rfl
  | _, _, .no r => by simp [r.length]
  | _, _, .so _ r => by simp [r.length]
theorem RepL.length : ∀ {ps : List PV} {vs : List V}, RepL K ρ H ps vs → ps.length = vs.length
  | _, _, .nil => rfl
  | _, _, .cons _ r => by simp [r.length]
theorem RepL.append : ∀ {ps qs : List PV} {vs us : List V}, RepL K ρ H ps vs → RepL K ρ H qs us → RepL K ρ H (ps ++ qs) (vs ++ us)
  | _, _, _, _, .nil, s => s
  | _, _, _, _, .cons h r, s => .cons h (r.append s)
theorem RepL.get : ∀ {ps : List PV} {vs : List V} {i : Nat} {p : PV}, RepL K ρ H ps vs → ps[i]? = some p → ∃ v, vs[i]? = some v ∧ Rep K ρ H p v
  | _, _, _, _, .nil, e => by simp at e
  | _, _, 0, p, .cons h _, e => by
    rw [List.getElem?_cons_zero] at e
    cases e
    exact ⟨_, rfl, h⟩
  | _, _, i + 1, p, .cons _ r, e => by
    obtain ⟨v, e1, h⟩ := r.get (i := i) (p := p) (by simpa using e)
    exact ⟨v, by simpa using e1, h⟩
theorem RepL.drop : ∀ {ps : List PV} {vs : List V} (n : Nat), RepL K ρ H ps vs → RepL K ρ H (ps.drop n) (vs.drop n)
  | _, _, 0, r => r
  | _, _, _ + 1, .nil => .nil
  | _, _, n + 1, .cons _ r => r.drop n
theorem RepL.take : ∀ {ps : List PV} {vs : List V} (n : Nat), RepL K ρ H ps vs → RepL K ρ H (ps.take n) (vs.take n)
  | _, _, 0, _ => .nil
  | _, _, _ + 1, .nil => .nil
  | _, _, n + 1, .cons h r => .cons h (r.take n)
theorem RepL.set {p : PV} {v : V} (h : Rep K ρ H p v) : ∀ {ps : List PV} {vs : List V} (i : Nat), RepL K ρ H ps vs → RepL K ρ H (ps.set i p) (vs.set i v)
  | _, _, _, .nil => .nil
  | _, _, 0, .cons _ r => .cons h r
  | _, _, i + 1, .cons q r => .cons q (RepL.set h i r)
theorem RepL.ints : ∀ (ns : List Int), RepL K ρ H (ns.map PV.int) (ns.map V.int)
  | [] => .nil
  | n :: r => .cons (.int n) (RepL.ints r)
end

/-! ### readings -/
/-- what is wished of an exception: its class's number, its attribute's value -/
abbrev WK := Nat → PV → Rho → Hp → Mem → Prop
def Out (K : PySem.W.Frag) (ρ : Rho) (H : Hp) (r : R PV) (Q : VK) (W : Nat → Option Addr → Hp → Prop) (att : Nat → Str) : Prop :=
  match r with
  | .ok p μ => ∀ ρ' H' v, Step ρ H ρ' H' → MemOk K ρ' H' μ → Rep K ρ' H' p v → Q v H'
  | .exc c x μ => ∀ ρ' H' d v, Step ρ H ρ' H' → MemOk K ρ' H' μ → H' d = some (.xd [(att c, v)]) → Rep K ρ' H' x v → W c (some d) H'
  | .bad => False
end HP
set_option Elab.async false
set_option linter.all false
set_option maxRecDepth 100000
set_option maxHeartbeats 2000000
namespace HP
open PySem PySem.Spec PyProof.Rows L2

def big : Nat := 16777216
theorem big_eq : sizeLine = big := by rw [sizeLine_eq] <;> rfl

/-! ### closed values as data -/
mutual
def toD : PV → PyData
  | .bl b => .bool b
  | .int i => .int i
  | .str s => .str ⟨s.toArray⟩
  | .tup xs => .tuple (toDs xs)
  | .lst xs => .list (toDs xs)
  | _ => .none
def toDs : List PV → List PyData
  | [] => []
  | x :: xs => toD x :: toDs xs
end
mutual
/-- no dict, no object of the store within -/
def cl : PV → Bool
  | .dct _ => false
  | .ref _ => false
  | .scr _ => false
  | .tup xs => cls xs
  | .lst xs => cls xs
  | _ => true
def cls : List PV → Bool
  | [] => true
  | x :: xs => cl x && cls xs
end
mutual
def dep : PV → Nat
  | .tup xs => deps xs + 1
  | .lst xs => deps xs + 1
  | _ => 0
def deps : List PV → Nat
  | [] => 0
  | x :: xs => max (dep x) (deps xs)
end
mutual
theorem plain_of : ∀ p : PV, cl p = true → (toD p).plain = true
  | .non, _ => by simp [toD, PyData.plain]
  | .bl _, _ => by simp [toD, PyData.plain]
  | .int _, _ => by simp [toD, PyData.plain]
  | .str _, _ => by simp [toD, PyData.plain]
  | .tup xs, h => by simp only [toD, PyData.plain]; exact plain_ofs xs (by simpa [cl] using h)
  | .lst xs, h => by simp only [toD, PyData.plain]; exact plain_ofs xs (by simpa [cl] using h)
  | .scr _, h => by simp [cl] at h
  | .dct _, h => by simp [cl] at h
  | .ref _, h => by simp [cl] at h
theorem plain_ofs : ∀ ps : List PV, cls ps = true → PyData.plainAll (toDs ps) = true
  | [], _ => by simp [toDs, PyData.plainAll]
  | p :: ps, h => by
    simp only [cls, Bool.and_eq_true] at h
    simp only [toDs, PyData.plainAll, plain_of p h.1, plain_ofs ps h.2, Bool.and_self]
end
mutual
theorem dep_of : ∀ p : PV, cl p = true → (toD p).depth ≤ dep p
  | .non, _ => by simp [toD, PyData.depth]
  | .bl _, _ => by simp [toD, PyData.depth]
  | .int _, _ => by simp [toD, PyData.depth]
  | .str _, _ => by simp [toD, PyData.depth]
  | .tup xs, h => by simp only [toD, PyData.depth, dep]; exact Nat.succ_le_succ (dep_ofs xs (by simpa [cl] using h))
  | .lst xs, h => by simp only [toD, PyData.depth, dep]; exact Nat.succ_le_succ (dep_ofs xs (by simpa [cl] using h))
  | .scr _, h => by simp [cl] at h
  | .dct _, h => by simp [cl] at h
  | .ref _, h => by simp [cl] at h
theorem dep_ofs : ∀ ps : List PV, cls ps = true → PyData.depthAll (toDs ps) ≤ deps ps
  | [], _ => by simp [toDs, PyData.depthAll]
  | p :: ps, h => by
    simp only [cls, Bool.and_eq_true] at h
    have h1 := dep_of p h.1
    have h2 := dep_ofs ps h.2
    simp only [toDs, PyData.depthAll, deps]
    omega
end
section
variable {X : Cx} {pins : List (Addr × Obj)} {σ : L2.St} {H : Hp} {s : Shared} {ρ : Rho}
theorem kList.sq {K : PySem.W.Frag} {a : Addr} {xs : List V} (h : kList K a xs) : SqL K H a xs := .inr h
theorem frT {K : PySem.W.Frag} {a : Addr} {o : Obj} {vs : List V} (e : H a = some (.frz o (.tup vs))) : SqT K H a vs := .inl (.inr ⟨o, e⟩)
theorem reads_list (I : Inv X pins σ H s) {a : Addr} {vs : List V} {ds : List PyData} (hs : SqL X.K H a vs) (h : ∀ us, Vals vs us → ∃ as, ReadsAll s.heap us ds as) : ∃ as, Reads s.heap (.ref a) (.list ds) as := by
  obtain ⟨its, rv, ⟨⟨cls, dd, data, sls⟩, n, ho, hc, hdn, hdt⟩, hlen⟩ := I.list hs
  simp only at hc hdt
  subst hc hdt
  obtain ⟨as, hr⟩ := h its rv
  exact ⟨_, .list ho rfl rfl (by simpa using hr)⟩
theorem reads_tup (I : Inv X pins σ H s) {a : Addr} {vs : List V} {ds : List PyData} (hs : SqT X.K H a vs) (h : ∀ us, Vals vs us → ∃ as, ReadsAll s.heap us ds as) : ∃ as, Reads s.heap (.ref a) (.tuple ds) as := by
  obtain ⟨its, rv, ⟨⟨cls, dd, data, sls⟩, ho, hc, n, hdt⟩, hlen⟩ := I.tuple hs
  simp only at hc hdt
  subst hc hdt
  obtain ⟨as, hr⟩ := h its rv
  exact ⟨_, .tuple ho rfl rfl (by simpa using hr)⟩
mutual
theorem reads_of (I : Inv X pins σ H s) : ∀ (p : PV) (v : V) (u : Value), cl p = true → Rep X.K ρ H p v → RelV v u → ∃ as, Reads s.heap u (toD p) as
  | .non, _, _, _, .non, r => by cases r; exact ⟨[], by simp only [toD]; exact .none⟩
  | .bl b, _, _, _, .bl _, r => by cases r; exact ⟨_, .bool b⟩
  | .int i, _, _, _, .int _, r => by obtain ⟨t, rfl⟩ := r; exact ⟨_, .int i t⟩
  | .str x, _, _, _, .str _, r => by obtain ⟨t, rfl⟩ := r; exact ⟨_, .str _ t⟩
  | .tup xs, _, _, h, .tup n e d rl, r => by
    cases r
    simp only [toD]
    exact reads_tup I (frT e) fun us rv => reads_ofs I xs _ us (by simpa [cl] using h) rl rv
  | .lst xs, _, _, h, .lst n e rl, r => by
    cases r
    simp only [toD]
    exact reads_list I (SqL.of e) fun us rv => reads_ofs I xs _ us (by simpa [cl] using h) rl rv
  | .scr _, _, _, h, _, _ => by simp [cl] at h
  | .dct _, _, _, h, _, _ => by simp [cl] at h
  | .ref _, _, _, h, _, _ => by simp [cl] at h
theorem reads_ofs (I : Inv X pins σ H s) : ∀ (ps : List PV) (vs : List V) (us : List Value), cls ps = true → RepL X.K ρ H ps vs → Vals vs us → ∃ as, ReadsAll s.heap us (toDs ps) as
  | [], _, _, _, .nil, r => by cases r; exact ⟨_, by simp only [toDs]; exact .nil⟩
  | p :: ps, _, _, h, .cons h1 h2, r => by
    simp only [cls, Bool.and_eq_true] at h
    cases r with
    | cons r1 r2 =>
      obtain ⟨as, q1⟩ := reads_of I p _ _ h.1 h1 r1
      obtain ⟨bs, q2⟩ := reads_ofs I ps _ _ h.2 h2 r2
      exact ⟨_, by simp only [toDs]; exact .cons q1 q2⟩
end
end

/-! ### equality -/
mutual
def eqv : PV → PV → Bool
  | .non, .non => true
  | .bl a, .bl b => a == b
  | .bl a, .int j => (if a then 1 else 0) == j
  | .int i, .bl b => i == (if b then 1 else 0)
  | .int i, .int j => i == j
  | .str x, .str y => x == y
  | .lst xs, .lst ys => eqvs xs ys
  | .tup xs, .tup ys => eqvs xs ys
  | _, _ => false
def eqvs : List PV → List PV → Bool
  | [], [] => true
  | x :: xs, y :: ys => eqv x y && eqvs xs ys
  | _, _ => false
end
theorem str_beq (x y : List Nat) : ((⟨x.toArray⟩ : Str) == ⟨y.toArray⟩) = (x == y) := by
  by_cases h : x = y
  · subst h; simp
  · have h1 : ¬ ((⟨x.toArray⟩ : Str) = ⟨y.toArray⟩) := fun e => by
      injection e with e
      exact h (by simpa using congrArg Array.toList e)
    rw [beq_eq_false_iff_ne.mpr h1, beq_eq_false_iff_ne.mpr h]
mutual
theorem eqv_of : ∀ p q : PV, cl p = true → cl q = true → PyData.eqv (toD p) (toD q) = eqv p q
  | .non, q, _, hq => by cases q <;> simp_all [toD, PyData.eqv, eqv, cl]
  | .bl a, q, _, hq => by cases q <;> simp_all [toD, PyData.eqv, eqv, cl]
  | .int a, q, _, hq => by cases q <;> simp_all [toD, PyData.eqv, eqv, cl]
  | .str a, q, _, hq => by cases q <;> simp_all [toD, PyData.eqv, eqv, cl, str_beq]
  | .tup xs, q, hp, hq => by
    cases q with
    | tup ys => simp only [toD, PyData.eqv, eqv]; exact eqv_ofs xs ys (by simpa [cl] using hp) (by simpa [cl] using hq)
    | _ => simp_all [toD, PyData.eqv, eqv, cl]
  | .lst xs, q, hp, hq => by
    cases q with
    | lst ys => simp only [toD, PyData.eqv, eqv]; exact eqv_ofs xs ys (by simpa [cl] using hp) (by simpa [cl] using hq)
    | _ => simp_all [toD, PyData.eqv, eqv, cl]
  | .scr _, _, h, _ => by simp [cl] at h
  | .dct _, _, h, _ => by simp [cl] at h
  | .ref _, _, h, _ => by simp [cl] at h
theorem eqv_ofs : ∀ ps qs : List PV, cls ps = true → cls qs = true → PyData.eqvAll (toDs ps) (toDs qs) = eqvs ps qs
  | [], [], _, _ => by simp [toDs, PyData.eqvAll, eqvs]
  | [], _ :: _, _, _ => by simp [toDs, PyData.eqvAll, eqvs]
  | _ :: _, [], _, _ => by simp [toDs, PyData.eqvAll, eqvs]
  | p :: ps, q :: qs, hp, hq => by
    simp only [cls, Bool.and_eq_true] at hp hq
    simp only [toDs, PyData.eqvAll, eqvs, eqv_of p q hp.1 hq.1, eqv_ofs ps qs hp.2 hq.2]
end
theorem any_eqv (q : PV) (hq : cl q = true) : ∀ ps : List PV, cls ps = true → ((toDs ps).any fun y => PyData.eqv y (toD q)) = ps.any fun y => eqv y q
  | [], _ => by simp [toDs]
  | p :: ps, hp => by
    simp only [cls, Bool.and_eq_true] at hp
    simp only [toDs, List.any_cons, eqv_of p q hp.1 hq, any_eqv q hq ps hp.2]

/-! ### lists, tuples as they stand -/
/-- what a list holds: a value, or an object of the store -/
def lsOf (μ : Mem) : PV → Option (List PV)
  | .lst xs => some xs
  | .ref n => match μ[n]? with
    | some (.lst xs) => some xs
    | _ => none
  | _ => none
/-- .. the script too: for reading -/
def lsR (μ : Mem) : PV → Option (List PV)
  | .scr ns => some (ns.map PV.int)
  | p => lsOf μ p
/-- a list or a tuple, for reading -/
def sqR (μ : Mem) : PV → Option (List PV)
  | .tup xs => some xs
  | p => lsR μ p
section
variable {K : PySem.W.Frag} {ρ : Rho} {H : Hp} {μ : Mem} {p : PV} {v : V} {xs : List PV}
theorem ls_of (m : MemOk K ρ H μ) (r : Rep K ρ H p v) (e : lsOf μ p = some xs) : ∃ a vs, v = .ref a ∧ H a = some (.lst vs) ∧ RepL K ρ H xs vs := by
  cases r with
  | lst n e1 rl => cases e; exact ⟨_, _, rfl, e1, rl⟩
  | @ref n a e1 =>
    obtain ⟨mo, e2, mr⟩ := m.all _ _ e1
    simp only [lsOf, e2] at e
    cases mr with
    | lst h1 h2 => cases e; exact ⟨_, _, rfl, h1, h2⟩
    | dct _ _ => cases e
    | lck _ _ => cases e
  | _ => cases e
theorem ls_r (m : MemOk K ρ H μ) (r : Rep K ρ H p v) (e : lsR μ p = some xs) : ∃ a vs, v = .ref a ∧ SqL K H a vs ∧ RepL K ρ H xs vs := by
  cases r with
  | scr n e1 => cases e; exact ⟨_, _, rfl, .inl e1, .ints _⟩
  | scrK e1 => cases e; exact ⟨_, _, rfl, e1.sq, .ints _⟩
  | lst n e1 rl =>
    obtain ⟨a, vs, e2, h, r2⟩ := ls_of m (.lst n e1 rl) e
    exact ⟨a, vs, e2, .of h, r2⟩
  | ref e1 =>
    obtain ⟨a, vs, e2, h, r2⟩ := ls_of m (.ref e1) e
    exact ⟨a, vs, e2, .of h, r2⟩
  | _ => cases e
theorem sq_r (m : MemOk K ρ H μ) (r : Rep K ρ H p v) (e : sqR μ p = some xs) : ∃ a vs, v = .ref a ∧ (SqL K H a vs ∨ SqT K H a vs) ∧ RepL K ρ H xs vs := by
  cases r with
  | tup n e1 d rl => cases e; exact ⟨_, _, rfl, .inr (frT e1), rl⟩
  | scr n e1 => obtain ⟨a, vs, h⟩ := ls_r m (.scr n e1) e; exact ⟨a, vs, h.1, .inl h.2.1, h.2.2⟩
  | scrK e1 => obtain ⟨a, vs, h⟩ := ls_r m (.scrK e1) e; exact ⟨a, vs, h.1, .inl h.2.1, h.2.2⟩
  | lst n e1 rl => obtain ⟨a, vs, h⟩ := ls_r m (.lst n e1 rl) e; exact ⟨a, vs, h.1, .inl h.2.1, h.2.2⟩
  | ref e1 => obtain ⟨a, vs, h⟩ := ls_r m (.ref e1) e; exact ⟨a, vs, h.1, .inl h.2.1, h.2.2⟩
  | _ => cases e
end

/-! ### new tuples: known to the object -/
def newT (vs : List V) (H : Hp) (Q : VK) : Prop := ∀ (p : Addr) (o : Obj), H p = none → o.dict = none → Q (.ref p) (upd H p (.frz o (.tup vs)))
section
variable {X : Cx} {pins : List (Addr × Obj)} {σ : L2.St} {H : Hp} {s : Shared}
theorem newT_ep {xs : List V} {us : List Value} {n : Nat} {Q : VK} (I : Inv X pins σ H s) (r : Vals xs us) (z : xs.length ≤ sizeLine) (q : newT xs H Q) :
    EP X pins σ Q (.ref s.heap.objs.size) { s with heap := s.heap.push { cls := .type "tuple", data := .seq us.toArray n } } := by
  have hg : ({ s with heap := s.heap.push { cls := .type "tuple", data := .seq us.toArray n } } : Shared).heap.get? s.heap.objs.size = some { cls := .type "tuple", data := .seq us.toArray n } := Heap.get?_push_size _ rfl
  have hn : H s.heap.objs.size = none := I.hok.fresh (Nat.le_refl _)
  refine ⟨.ref s.heap.objs.size, _, I.laid (t' := s.toks) (o := .frz { cls := .type "tuple", data := .seq us.toArray n } (.tup xs)) (fun b ob e => Heap.get?_push_of_some _ e) (Nat.le_refl _) ?_, rfl, q _ _ hn rfl⟩
  exact ⟨hg, z, us, r, ⟨_, hg, rfl, n, rfl⟩⟩
def tTupF (t : TA) : TE := fun σ H Q => t σ H fun xs H1 => xs.length ≤ sizeLine ∧ newT xs H1 Q
theorem pe_tupF {es : List Expr} {t : TA} {x1 : Nat} {pos : Pos} (h : PA X es t) : PE X (.Tuple es x1 pos) (tTupF t) := by
  constructor
  intro pins s σ H Q I hq
  exact wpAny_Tuple_spliced (thn (h.run pos pins s σ H _ I hq) fun us s1 ⟨xs, H1, I1, r, z, q⟩ => ⟨by rw [← r.length]; exact z, newT_ep I1 r z q⟩)
/-- t + u -/
def rCatF (K : PySem.W.Frag) : R2 := fun x y H Q => ∃ a b xs ys, x = .ref a ∧ y = .ref b ∧ SqT K H a xs ∧ SqT K H b ys ∧ xs.length + ys.length ≤ sizeLine ∧
  (xs = [] → Q (.ref b) H) ∧ (ys = [] → Q (.ref a) H) ∧ newT (xs ++ ys) H Q
theorem op_catF : OpR X (binaryOp .Add) (rCatF X.K) := by
  intro pins s σ H x y v u Q I rx ry ⟨a, b, xs, ys, ex, ey, ha, hb, hz, q0, q1, q2⟩
  subst ex ey
  cases rx
  cases ry
  obtain ⟨its, r1, p1, _⟩ := I.tuple ha
  obtain ⟨its2, r2, p2, _⟩ := I.tuple hb
  have l1 := r1.length
  have l2 := r2.length
  by_cases hx : its = []
  · subst hx
    have e : xs = [] := by cases r1; rfl
    exact L2.cat_tup0 p1 p2 ⟨.ref b, H, I, rfl, q0 e⟩
  · refine HT.cat_tup p1 p2 hx (fun z => ?_) (fun _ => newT_ep I (r1.append r2) (by rw [List.length_append]; exact hz) q2) (by omega)
    subst z
    have e : ys = [] := by cases r2; rfl
    exact ⟨.ref a, H, I, rfl, q1 e⟩
/-- t[lo:hi] -/
def rSlF (K : PySem.W.Frag) : V → Option Int → Option Int → Hp → VK → Prop := fun x lo hi H Q => ∃ a xs, x = .ref a ∧ SqT K H a xs ∧ (cutV xs lo hi = xs → Q (.ref a) H) ∧ newT (cutV xs lo hi) H Q
theorem sl_tupF : SlR X (rSlF X.K) := by
  intro pins s σ H x v vl vu lo hi sl Q I rx hs pl pu ⟨a, xs, ex, hx, q1, q2⟩
  subst ex
  cases rx
  obtain ⟨its, r, ht, hz⟩ := I.tuple hx
  have hlen : its.toArray.size = xs.length := by rw [List.size_toArray]; exact r.length.symm
  refine ⟨"tuple", _, PyProof.Rows.slot_tuple_getitem.lookup, ht.typeIs, ?_⟩
  by_cases hw : HT.sIx xs.length 0 lo = 0 ∧ HT.sIx xs.length xs.length hi = xs.length
  · refine L2.getItem_tuple_whole ht hs pl pu (by rw [hlen]; exact hw) ⟨.ref a, H, I, rfl, q1 ?_⟩
    unfold cutV
    rw [hw.1, hw.2, List.drop_zero, Nat.sub_zero, List.take_length]
  · refine HT.getItem_tuple_cut ht hs pl pu (by rw [hlen]; exact hw) ?_ (by rw [hlen]; exact hz)
    rw [hlen]
    exact newT_ep I ((r.drop _).take _) (Nat.le_trans (cutV_length xs lo hi) hz) q2
/-- tuple(l), tuple(t) -/
theorem call_tupleF : CallR X (.type "tuple") (fun xs H Q => ∃ p ys, xs = [.ref p] ∧ ((SqL X.K H p ys ∧ newT ys H Q) ∨ (SqT X.K H p ys ∧ Q (.ref p) H))) := by
  intro pins s σ H xs us Q I r ⟨p, ys, ex, h⟩
  subst ex
  obtain ⟨u, eu, rx⟩ := vals1 r
  subst eu
  cases rx
  rcases h with ⟨hq, q⟩ | ⟨hq, q⟩
  · obtain ⟨its, r', pl, hz⟩ := I.list hq
    have hlen := r'.length
    refine call_tuple_list pl.isList (fun h' kp => ?_) (by simp only [List.size_toArray] <;> omega)
    exact newT_ep (s := { s with heap := h' }) (I.kept (t' := s.toks) kp) r' hz q
  · obtain ⟨its, r', pl, hz⟩ := I.tuple hq
    exact call_tuple_same pl ⟨.ref p, H, I, rfl, q⟩
end

/-! ### new objects -/
/-- a new list: an object of the store, if it is to be changed -/
def newL (m : Bool) (xs : List PV) (μ : Mem) : R PV := if m then .ok (.ref μ.length) (μ ++ [.lst xs]) else .ok (.lst xs) μ
def newD (m : Bool) (kvs : List (PV × PV)) (μ : Mem) : R PV := if m then .ok (.ref μ.length) (μ ++ [.dct kvs]) else .ok (.dct kvs) μ
section
variable {K : PySem.W.Frag} {ρ : Rho} {H : Hp} {μ : Mem} {xs : List PV} {vs : List V} {Q : VK} {W : Nat → Option Addr → Hp → Prop} {att : Nat → Str} {m : Bool}
theorem out_tup (hm : MemOk K ρ H μ) (r : RepL K ρ H xs vs) (o : Out K ρ H (.ok (.tup xs) μ) Q W att) : newT vs H Q := fun p ob hp hd =>
  o ρ _ _ (step_new hp) (hm.new hp) (.tup (hm.notin hp) upd_same hd (r.step (step_new hp)))
theorem out_lst (hm : MemOk K ρ H μ) (r : RepL K ρ H xs vs) (o : Out K ρ H (newL m xs μ) Q W att) : ∀ p, H p = none → Q (.ref p) (upd H p (.lst vs)) := fun p hp => by
  cases m with
  | false => exact o ρ _ _ (step_new hp) (hm.new hp) (.lst (hm.notin hp) upd_same (r.step (step_new hp)))
  | true =>
    refine o (ρ.push p) _ _ (step_push hp) (hm.push hp (.lst upd_same (r.step (step_push hp)))) (.ref ?_)
    rw [← hm.len, Rho.push, List.getElem?_append_right (Nat.le_refl _)]; simp
theorem out_dct {kvs : List (PV × PV)} {ks : List (Key × V)} (hm : MemOk K ρ H μ) (r : RepK K ρ H kvs ks) (o : Out K ρ H (newD m kvs μ) Q W att) : ∀ p, H p = none → Q (.ref p) (upd H p (.dK ks)) := fun p hp => by
  cases m with
  | false => exact o ρ _ _ (step_new hp) (hm.new hp) (.dct (hm.notin hp) (.inl upd_same) (r.step (step_new hp)))
  | true =>
    refine o (ρ.push p) _ _ (step_push hp) (hm.push hp (.dct upd_same (r.step (step_push hp)))) (.ref ?_)
    rw [← hm.len, Rho.push, List.getElem?_append_right (Nat.le_refl _)]; simp
theorem out_val {p : PV} {v : V} (hm : MemOk K ρ H μ) (r : Rep K ρ H p v) (o : Out K ρ H (.ok p μ) Q W att) : Q v H := o ρ H v .refl hm r
end
end HP
set_option Elab.async false
set_option linter.all false
set_option maxRecDepth 100000
set_option maxHeartbeats 4000000
namespace HP
open PySem PySem.Spec PyProof.Rows L2

/-! ### binary operators -/
def p64 : Int := 18446744073709551616
def okMul (i j : Int) : Bool := (decide (-p64 < i) && decide (i < p64)) || (decide (-p64 < j) && decide (j < p64))
def binI (op : Operator) (i j : Int) : Option Int :=
  match op with
  | .Add => some (i + j)
  | .Sub => some (i - j)
  | .Mult => if okMul i j then some (i * j) else none
  | .FloorDiv => if decide (0 < j) && decide (j < 1073741824) then some (i / j) else none
  | .Mod => if decide (0 < j) then some (i % j) else none
  | .Pow => if decide (0 ≤ j) && (decide (j ≤ 1000000) && decide (i.natAbs < 18446744073709551616)) then some (i ^ j.toNat) else none
  | _ => none
def addQ (m : Bool) (p q : PV) (μ : Mem) : R PV :=
  match p, q with
  | .str a, .str b => if Nat.ble (a.length + b.length) big then .ok (.str (a ++ b)) μ else .bad
  | .tup a, .tup b => if Nat.ble (a.length + b.length) big then .ok (.tup (a ++ b)) μ else .bad
  | p, q => match lsOf μ p, lsOf μ q with
    | some a, some b => if Nat.ble (a.length + b.length) big then newL m (a ++ b) μ else .bad
    | _, _ => .bad
def mulQ (m : Bool) (p : PV) (k : Int) (μ : Mem) : R PV :=
  match p with
  | .tup a => if decide (1 ≤ k) && (decide (k ≤ 1000) && Nat.ble a.length 1000) then .ok (.tup (List.replicate k.toNat a).flatten) μ else .bad
  | p => match lsOf μ p with
    | some a => if decide (0 ≤ k) && (decide (k ≤ 1000000) && Nat.ble (a.length * k.toNat) big) then newL m (List.replicate k.toNat a).flatten μ else .bad
    | none => .bad
def bin (m : Bool) (op : Operator) (p q : PV) (μ : Mem) : R PV :=
  match p, q with
  | .int i, .int j => match binI op i j with
    | some k => .ok (.int k) μ
    | none => .bad
  | p, .int k => match op with
    | .Mult => mulQ m p k μ
    | _ => .bad
  | p, q => match op with
    | .Add => addQ m p q μ
    | _ => .bad

/-- a reading by two values -/
def rB (K : PySem.W.Frag) (f : PV → PV → Mem → R PV) (W : Nat → Option Addr → Hp → Prop) (att : Nat → Str) : R2 := fun x y H Q =>
  ∃ ρ μ p q, MemOk K ρ H μ ∧ Rep K ρ H p x ∧ Rep K ρ H q y ∧ Out K ρ H (f p q μ) Q W att
section
variable {X : Cx} {W : Nat → Option Addr → Hp → Prop} {att : Nat → Str} {ρ : Rho} {H : Hp} {μ : Mem} {p q : PV} {x y : V} {Q : VK}
theorem RepL.rep {K : PySem.W.Frag} {xs : List PV} {vs : List V} (r : RepL K ρ H xs vs) : ∀ n : Nat, RepL K ρ H (List.replicate n xs).flatten (List.replicate n vs).flatten
  | 0 => by simp only [List.replicate_zero, List.flatten_nil]; exact .nil
  | n + 1 => by simp only [List.replicate_succ, List.flatten_cons]; exact r.append (r.rep n)
theorem okMul_c {i j : Int} (h : okMul i j = true) : CMul i j := by
  simp only [okMul, p64, Bool.or_eq_true, Bool.and_eq_true] at h
  rcases h with ⟨a, b⟩ | ⟨a, b⟩
  · exact .inl ⟨by have := of_decide_eq_true a; omega, by have := of_decide_eq_true b; omega⟩
  · exact .inr ⟨by have := of_decide_eq_true a; omega, by have := of_decide_eq_true b; omega⟩
theorem op_binI {op : Operator} {i j k : Int} (e : binI op i j = some k) : OpR X (binaryOp op) (fun x y H Q => x = .int i ∧ y = .int j ∧ Q (.int k) H) := by
  intro pins s σ H x y v u Q I rx ry ⟨ex, ey, h⟩
  cases op with
  | Add => cases e; exact op_add pins s σ H x y v u Q I rx ry ⟨i, j, ex, ey, h⟩
  | Sub => cases e; exact op_sub pins s σ H x y v u Q I rx ry ⟨i, j, ex, ey, h⟩
  | Mult =>
    simp only [binI] at e
    split at e
    · rename_i c
      cases e
      exact op_mul pins s σ H x y v u Q I rx ry ⟨i, j, ex, ey, okMul_c c, h⟩
    · cases e
  | FloorDiv =>
    simp only [binI] at e
    split at e
    · rename_i c
      cases e
      simp only [Bool.and_eq_true, decide_eq_true_eq] at c
      exact op_fdiv pins s σ H x y v u Q I rx ry ⟨i, j, ex, ey, c, h⟩
    · cases e
  | Mod =>
    simp only [binI] at e
    split at e
    · rename_i c
      cases e
      exact op_mod pins s σ H x y v u Q I rx ry ⟨i, j, ex, ey, of_decide_eq_true c, h⟩
    · cases e
  | Pow =>
    simp only [binI] at e
    split at e
    · rename_i c
      cases e
      simp only [Bool.and_eq_true, decide_eq_true_eq] at c
      exact op_pow pins s σ H x y v u Q I rx ry ⟨i, j, ex, ey, ⟨c.1, c.2.1, by have := c.2.2; omega⟩, h⟩
    · cases e
  | _ => cases e
theorem tup_mul_same (l : Addr) (items : Array Value) (n : Nat) (dd : Option Addr) (sl : Array (Option Value)) (x : Int) (u : Tok) (c0 : (decide (x < -(2 ^ 63)) || decide (x ≥ 2 ^ 63)) = false) (c1 : (items.isEmpty || x == 1) = true) :
    Meets (Builtin.«tuple.__mul__» ⟨[.ref l, .int x u], []⟩) (fun _ R s => s.heap.get? l = some { cls := .type "tuple", dict := dd, data := .seq items n, slots := sl } ∧ R (.ok (.ret (Value.ref l))) s) :=
  .of_wp fun prog w A R s h => by
    obtain ⟨hp, g, d, tk, os⟩ := s
    obtain ⟨hl, h⟩ := h
    have f1 := AutoSeq1.idx_int
    wp_walk using AutoSeq1.wpAny_loadPart' hl
    refine wpAny_ite_false (decide_eq_false (by rw [c0]; exact Bool.false_ne_true)) ?_
    wp_walk using AutoSeq1.wpAny_loadPart' hl
    exact ⟨_, rfl, h⟩
/-- t * k -/
def rMulF (K : PySem.W.Frag) : R2 := fun x y H Q => ∃ l k xs, x = .ref l ∧ y = .int k ∧ SqT K H l xs ∧ 1 ≤ k ∧ k ≤ 1000 ∧ xs.length ≤ 1000 ∧ ((List.replicate k.toNat xs).flatten = xs → Q (.ref l) H) ∧ newT (List.replicate k.toNat xs).flatten H Q
theorem op_mulF : OpR X (binaryOp .Mult) (rMulF X.K) := by
  intro pins s σ H x y v u Q I rx ry ⟨l, k, xs, ex, ey, hT, h1, h2, hz, q0, q⟩
  subst ex ey
  cases rx
  obtain ⟨t, et⟩ := ry
  subst et
  obtain ⟨its, r, ⟨⟨cls, dd, data, sl⟩, ho, hc, n, hd⟩, hs⟩ := I.tuple hT
  simp only at hc hd
  subst hc hd
  have hle : its.length = xs.length := r.length.symm
  have c0 : (decide (k < -(2 ^ 63)) || decide (k ≥ 2 ^ 63)) = false := by
    rw [decide_eq_false (by omega), decide_eq_false (by omega)] <;> rfl
  by_cases c1 : (its.toArray.isEmpty || k == 1) = true
  · have e : (List.replicate k.toNat xs).flatten = xs := by
      rcases Bool.or_eq_true_iff.mp c1 with z | z
      · have hn : its = [] := by simpa using z
        rw [hn] at hle
        have hx : xs = [] := List.eq_nil_of_length_eq_zero hle.symm
        rw [hx]; simp
      · have hk : k = 1 := by simpa using z
        rw [hk]; simp
    refine wpAny_binaryOp_repeat_ref (T := "tuple") (U := "int") (by decide) ⟨_, ho, rfl⟩ (fun s' => typeIs_int s' k t) noFill_tuple_mul F.fills_int_mul F.slot_int_rmul repeat_tuple F.slot_int_index.lookup
      (call_meets F.slot_int_rmul (typeIs_int s k t) F.entry_int_rmul (F.args_int_rmul_2 _ _) (int_rmul_tuple k t l its.toArray n dd sl)
        ⟨ho, rfl, ⟨_, ho, rfl⟩, call_meets F.slot_tuple_mul ⟨_, ho, rfl⟩ F.entry_tuple_mul (F.args_tuple_mul_2 _ _) (tup_mul_same l its.toArray n dd sl k t c0 c1) ⟨ho, ?_⟩⟩)
    exact ⟨.ref l, H, I, rfl, q0 e⟩
  · have c1' : (its.toArray.isEmpty || k == 1) = false := by simpa using c1
    obtain ⟨z1, z2⟩ := Bool.or_eq_false_iff.mp c1'
    have hk : k ≠ 1 := by simpa using z2
    have hsz0 : its.toArray.size = xs.length := by rw [List.size_toArray, hle]
    have hm : ((its.toArray.size : Nat) : Int) * k ≤ 1000000 := by
      rw [hsz0]
      have a1 : ((xs.length : Nat) : Int) * k ≤ 1000 * k := Int.mul_le_mul_of_nonneg_right (by omega) (by omega)
      omega
    have flen : ∀ z : Nat, z = xs.length → k.toNat * z ≤ sizeLine := fun z hz' => by
      rw [sizeLine_eq, hz']
      have a1 : k.toNat * xs.length ≤ 1000 * 1000 := Nat.mul_le_mul (by omega) hz
      omega
    have c2 : (decide (k ≤ 0) || its.toArray.isEmpty) = false := by
      rw [z1, Bool.or_false]
      exact decide_eq_false (by omega)
    have c4 : Builtin.Tuple.tupleTooMany (((its.toArray.size : Nat) : Int) * k) = false := by
      unfold Builtin.Tuple.tupleTooMany
      rw [sizeLine_eq]
      exact decide_eq_false (by omega)
    refine wpAny_binaryOp_repeat_ref (T := "tuple") (U := "int") (by decide) ⟨_, ho, rfl⟩ (fun s' => typeIs_int s' k t) noFill_tuple_mul F.fills_int_mul F.slot_int_rmul repeat_tuple F.slot_int_index.lookup
      (call_meets F.slot_int_rmul (typeIs_int s k t) F.entry_int_rmul (F.args_int_rmul_2 _ _) (int_rmul_tuple k t l its.toArray n dd sl)
        ⟨ho, rfl, ⟨_, ho, rfl⟩, call_meets F.slot_tuple_mul ⟨_, ho, rfl⟩ F.entry_tuple_mul (F.args_tuple_mul_2 _ _)
          (tuple_mulW l its.toArray n dd sl k t c0 c1' c2 (by omega) c4 (by rw [size_rep, List.size_toArray, PyProof.Rows.lm_len_rep_flat]; exact flen _ hle)) ⟨ho, ?_⟩⟩)
    rw [size_rep]
    exact newT_ep I (r.rep k.toNat) (by rw [PyProof.Rows.lm_len_rep_flat]; exact flen _ rfl) q
theorem ble_line {n : Nat} (h : Nat.ble n big = true) : n ≤ sizeLine := by rw [big_eq]; exact Nat.le_of_ble_eq_true h
theorem op_addQ (m : Bool) : OpR X (binaryOp .Add) (rB X.K (addQ m) W att) := by
  intro pins s σ H x y v u Q I rx ry ⟨ρ, μ, p, q, hm, hp, hq, o⟩
  unfold addQ at o
  split at o
  · rename_i a b
    cases hp; cases hq
    split at o
    · rename_i c
      refine op_add_str pins s σ H _ _ v u Q I rx ry ⟨_, _, rfl, rfl, ?_, ?_⟩
      · have := ble_line c
        simpa [Str.length] using this
      · have := out_val hm (.str (a ++ b)) o
        have e : ((⟨a.toArray⟩ : Str) ++ ⟨b.toArray⟩) = ⟨(a ++ b).toArray⟩ := by
          show Str.append _ _ = _
          simp [Str.append]
        rw [e]; exact this
    · exact o.elim
  · rename_i a b
    cases hp with
    | tup n1 e1 d1 r1 =>
    cases hq with
    | tup n2 e2 d2 r2 =>
    split at o
    · rename_i c
      refine op_catF pins s σ H _ _ v u Q I rx ry ⟨_, _, _, _, rfl, rfl, frT e1, frT e2, ?_, fun z => ?_, fun z => ?_, out_tup hm (r1.append r2) o⟩
      · rw [← r1.length, ← r2.length]; exact ble_line c
      · subst z
        have ea : a = [] := by cases r1; rfl
        subst ea
        exact out_val hm (.tup n2 e2 d2 r2) o
      · subst z
        have eb : b = [] := by cases r2; rfl
        subst eb
        rw [List.append_nil] at o
        exact out_val hm (.tup n1 e1 d1 r1) o
    · exact o.elim
  · split at o
    · rename_i a b ha hb
      split at o
      · rename_i c
        obtain ⟨l, vs, rfl, h1, r1⟩ := ls_of hm hp ha
        obtain ⟨l2, us, rfl, h2, r2⟩ := ls_of hm hq hb
        refine op_cat pins s σ H _ _ v u Q I rx ry ⟨_, _, _, _, rfl, rfl, h1, h2, ?_, out_lst hm (r1.append r2) o⟩
        rw [← r1.length, ← r2.length]; exact ble_line c
      · exact o.elim
    · exact o.elim
theorem op_mulQ (m : Bool) (k : Int) : OpR X (binaryOp .Mult) (fun x y H Q => y = .int k ∧ ∃ ρ μ p, MemOk X.K ρ H μ ∧ Rep X.K ρ H p x ∧ Out X.K ρ H (mulQ m p k μ) Q W att) := by
  intro pins s σ H x y v u Q I rx ry ⟨ey, ρ, μ, p, hm, hp, o⟩
  subst ey
  unfold mulQ at o
  split at o
  · rename_i a
    cases hp with
    | tup n1 e1 d1 r1 =>
    split at o
    · rename_i c
      simp only [Bool.and_eq_true, decide_eq_true_eq] at c
      refine op_mulF pins s σ H _ _ v u Q I rx ry ⟨_, k, _, rfl, rfl, frT e1, c.1, c.2.1, ?_, fun z => ?_, out_tup hm (r1.rep _) o⟩
      · rw [← r1.length]; exact Nat.le_of_ble_eq_true c.2.2
      · refine out_val hm (.tup n1 e1 d1 ?_) o
        have r3 := r1.rep k.toNat
        rw [z] at r3
        exact r3
    · exact o.elim
  · split at o
    · rename_i a ha
      split at o
      · rename_i c
        simp only [Bool.and_eq_true, decide_eq_true_eq] at c
        obtain ⟨l, vs, rfl, h1, r1⟩ := ls_of hm hp ha
        refine op_rep pins s σ H _ _ v u Q I rx ry ⟨_, k, _, rfl, rfl, h1, by omega, by omega, ?_, out_lst hm (r1.rep _) o⟩
        rw [← r1.length]; exact ble_line c.2.2
      · exact o.elim
    · exact o.elim
theorem op_bin (m : Bool) (op : Operator) : OpR X (binaryOp op) (rB X.K (bin m op) W att) := by
  intro pins s σ H x y v u Q I rx ry ⟨ρ, μ, p, q, hm, hp, hq, o⟩
  unfold bin at o
  split at o
  · cases hp; cases hq
    split at o
    · rename_i k e
      exact op_binI e pins s σ H _ _ v u Q I rx ry ⟨rfl, rfl, out_val hm (.int k) o⟩
    · exact o.elim
  · cases hq
    split at o
    · exact op_mulQ m _ pins s σ H _ _ v u Q I rx ry ⟨rfl, ρ, μ, _, hm, hp, o⟩
    · exact o.elim
  · split at o
    · exact op_addQ m pins s σ H _ _ v u Q I rx ry ⟨ρ, μ, _, _, hm, hp, hq, o⟩
    · exact o.elim
end

/-! ### comparisons -/
/-- an object of the store as the value it is now -/
def fz (μ : Mem) : PV → PV
  | .ref n => match μ[n]? with
    | some (.lst xs) => .lst xs
    | _ => .ref n
  | p => p
def eqq (p q : PV) (μ : Mem) : Option Bool :=
  if cl (fz μ p) && (cl (fz μ q) && Nat.ble (min (dep (fz μ p)) (dep (fz μ q))) 64) then some (eqv (fz μ p) (fz μ q)) else none
def ltS : List Nat → List Nat → Bool
  | [], [] => false
  | [], _ :: _ => true
  | _ :: _, [] => false
  | a :: l, b :: m => if a == b then ltS l m else Nat.blt a b
def isNon : PV → Bool
  | .non => true
  | _ => false
def ltq (p q : PV) : Option Bool :=
  match p, q with
  | .int i, .int j => some (decide (i < j))
  | .str a, .str b => some (ltS a b)
  | p, q => if cl p && (cl q && (PySem.W.alike (toD p) (toD q) && (!isNon p && Nat.ble (min (dep p) (dep q)) 64))) then some (PySem.W.dataLt (toD p) (toD q)) else none
def keq : PV → PV → Bool
  | .int i, .int j => i == j
  | .str a, .str b => a == b
  | _, _ => false
def lookP : List (PV × PV) → PV → Option PV
  | [], _ => none
  | (k, v) :: r, p => if keq k p then some v else lookP r p
def dkOf (μ : Mem) : PV → Option (List (PV × PV))
  | .dct kvs => some kvs
  | .ref n => match μ[n]? with
    | some (.dct kvs) => some kvs
    | some (.lck kvs) => some kvs
    | _ => none
  | _ => none
def isKey : PV → Bool
  | .int _ => true
  | .str _ => true
  | _ => false
def memN : Nat → List Nat → Bool
  | _, [] => false
  | c, d :: r => c == d || memN c r
def inq (p q : PV) (μ : Mem) : Option Bool :=
  match p, q with
  | .str [c], .str s => some (memN c s)
  | p, q => match dkOf μ q with
    | some kvs => if isKey p then some (lookP kvs p).isSome else none
    | none => match sqR μ q with
      | some xs => if cl p && (cls xs && Nat.ble (min (deps xs) (dep p)) 64) then some (xs.any fun y => eqv y p) else none
      | none => none
def isq (p q : PV) : Option Bool :=
  match p, q with
  | p, .non => some (isNon p)
  | .bl a, .bl b => some (a == b)
  | _, _ => none
def cmpq (op : CmpOp) (p q : PV) (μ : Mem) : Option Bool :=
  match op with
  | .Eq => eqq p q μ
  | .NotEq => (eqq p q μ).map not
  | .Lt => ltq p q
  | .Gt => ltq q p
  | .LtE => match p, q with
    | .int i, .int j => some (decide (i ≤ j))
    | _, _ => none
  | .GtE => match p, q with
    | .int i, .int j => some (decide (j ≤ i))
    | _, _ => none
  | .Is => isq p q
  | .IsNot => (isq p q).map not
  | .In => inq p q μ
  | .NotIn => (inq p q μ).map not
def rCmp (K : PySem.W.Frag) (op : CmpOp) : R2 := fun x y H Q =>
  ∃ ρ μ p q b, MemOk K ρ H μ ∧ Rep K ρ H p x ∧ Rep K ρ H q y ∧ cmpq op p q μ = some b ∧ Q (.bl b) H
section
variable {X : Cx} {pins : List (Addr × Obj)} {σ : L2.St} {H : Hp} {s : Shared} {ρ : Rho} {μ : Mem}
theorem reads_fz (I : Inv X pins σ H s) (hm : MemOk X.K ρ H μ) {p : PV} {v : V} {u : Value} (c : cl (fz μ p) = true) (r : Rep X.K ρ H p v) (ru : RelV v u) : ∃ as, Reads s.heap u (toD (fz μ p)) as := by
  by_cases h : ∃ n xs, p = .ref n ∧ μ[n]? = some (.lst xs)
  · obtain ⟨n, xs, rfl, e⟩ := h
    have ef : fz μ (.ref n) = .lst xs := by simp only [fz, e]
    rw [ef] at c ⊢
    obtain ⟨a, vs, rfl, h1, r1⟩ := ls_of (xs := xs) hm r (by simp only [lsOf, e])
    cases ru
    simp only [toD]
    exact reads_list I (SqL.of h1) fun us rv => reads_ofs I xs vs us (by simpa [cl] using c) r1 rv
  · have ef : fz μ p = p := by
      cases p with
      | ref n =>
        simp only [fz]
        split
        · rename_i xs e
          exact absurd ⟨n, xs, rfl, e⟩ h
        · rfl
      | _ => rfl
    rw [ef] at c ⊢
    exact reads_of I p v u c r ru
theorem room_min {A : Around} {p q : PV} (hu : A.units + 70 < cLine) (hp : cl p = true) (hq : cl q = true) (h : min (dep p) (dep q) ≤ 64) : A.units + min (toD p).depth (toD q).depth < cLine := by
  have h1 := dep_of p hp
  have h2 := dep_of q hq
  omega
theorem op_eqq (hu : X.A.units + 70 < cLine) : OpR X (compareOp .Eq) (rCmp X.K .Eq) := by
  intro pins s σ H x y v u Q I rx ry ⟨ρ, μ, p, q, b, hm, hp, hq, e, h⟩
  simp only [cmpq, eqq] at e
  split at e
  · rename_i c
    simp only [Bool.and_eq_true] at c
    cases e
    obtain ⟨as, r1⟩ := reads_fz I hm c.1 hp rx
    obtain ⟨bs, r2⟩ := reads_fz I hm c.2.1 hq ry
    exact SeqAt.eq_plain r1 r2 (plain_of _ c.1) (plain_of _ c.2.1) (room_min hu c.1 c.2.1 (Nat.le_of_ble_eq_true c.2.2)) ⟨.bl _, H, I, by rw [eqv_of _ _ c.1 c.2.1]; rfl, h⟩
  · cases e
theorem op_neq (hu : X.A.units + 70 < cLine) : OpR X (compareOp .NotEq) (rCmp X.K .NotEq) := by
  intro pins s σ H x y v u Q I rx ry ⟨ρ, μ, p, q, b, hm, hp, hq, e, h⟩
  simp only [cmpq, eqq] at e
  split at e
  · rename_i c
    simp only [Bool.and_eq_true] at c
    cases e
    obtain ⟨as, r1⟩ := reads_fz I hm c.1 hp rx
    obtain ⟨bs, r2⟩ := reads_fz I hm c.2.1 hq ry
    exact SeqAt.ne_plain r1 r2 (plain_of _ c.1) (plain_of _ c.2.1) (room_min hu c.1 c.2.1 (Nat.le_of_ble_eq_true c.2.2)) ⟨.bl _, H, I, by rw [eqv_of _ _ c.1 c.2.1]; rfl, h⟩
  · cases e
theorem ltS_eq : ∀ a b : List Nat, ltS a b = decide (a < b)
  | [], [] => by simp [ltS]
  | [], _ :: _ => by simp [ltS]
  | _ :: _, [] => by simp [ltS]
  | a :: l, b :: m => by
    simp only [ltS]
    by_cases h : a = b
    · subst h
      simp [ltS_eq l m]
    · rw [if_neg (by simpa using h)]
      rw [Bool.eq_iff_iff]
      simp only [decide_eq_true_eq, List.cons_lt_cons_iff]
      rw [Nat.blt, Nat.ble_eq]
      constructor
      · intro z; exact .inl z
      · rintro (z | ⟨z, _⟩)
        · exact z
        · exact absurd z h
theorem isNon_ne {p : PV} (h : isNon p = false) (hc : cl p = true) : toD p ≠ .none := by
  cases p <;> simp_all [isNon, toD, cl]
theorem op_ltq (hu : X.A.units + 70 < cLine) : OpR X (compareOp .Lt) (rCmp X.K .Lt) := by
  intro pins s σ H x y v u Q I rx ry ⟨ρ, μ, p, q, b, hm, hp, hq, e, h⟩
  simp only [cmpq, ltq] at e
  split at e
  · cases hp; cases hq; cases e
    exact op_lt pins s σ H _ _ v u Q I rx ry ⟨_, _, rfl, rfl, h⟩
  · cases hp; cases hq; cases e
    exact op_lt_str pins s σ H _ _ v u Q I rx ry ⟨_, _, rfl, rfl, by simpa [ltS_eq] using h⟩
  · split at e
    · rename_i c
      simp only [Bool.and_eq_true, Bool.not_eq_true'] at c
      cases e
      obtain ⟨as, r1⟩ := reads_of I _ _ _ c.1 hp rx
      obtain ⟨bs, r2⟩ := reads_of I _ _ _ c.2.1 hq ry
      exact PySem.W.lt_data r1 r2 c.2.2.1 (isNon_ne c.2.2.2.1 c.1) (room_min hu c.1 c.2.1 (Nat.le_of_ble_eq_true c.2.2.2.2)) ⟨.bl _, H, I, rfl, h⟩
    · cases e
theorem op_gtq (hu : X.A.units + 70 < cLine) : OpR X (compareOp .Gt) (rCmp X.K .Gt) := by
  intro pins s σ H x y v u Q I rx ry ⟨ρ, μ, p, q, b, hm, hp, hq, e, h⟩
  simp only [cmpq, ltq] at e
  split at e
  · cases hp; cases hq; cases e
    exact op_gt pins s σ H _ _ v u Q I rx ry ⟨_, _, rfl, rfl, h⟩
  · cases hp; cases hq; cases e
    exact op_gt_str pins s σ H _ _ v u Q I rx ry ⟨_, _, rfl, rfl, by simpa [ltS_eq] using h⟩
  · split at e
    · rename_i c
      simp only [Bool.and_eq_true, Bool.not_eq_true'] at c
      cases e
      obtain ⟨as, r1⟩ := reads_of I _ _ _ c.1 hq ry
      obtain ⟨bs, r2⟩ := reads_of I _ _ _ c.2.1 hp rx
      have al : PySem.W.alike (toD p) (toD q) = true := by rw [PySem.W.alike_comm]; exact c.2.2.1
      refine PySem.W.gt_data r2 r1 al ?_ ?_ ⟨.bl _, H, I, rfl, h⟩
      · intro z
        have z2 := c.2.2.1
        have z3 := isNon_ne c.2.2.2.1 c.1
        rw [z] at z2
        generalize hd : toD q = d at z2 z3
        cases d <;> simp_all [PySem.W.alike]
      · rw [Nat.min_comm]
        exact room_min hu c.1 c.2.1 (Nat.le_of_ble_eq_true c.2.2.2.2)
    · cases e
theorem op_leq : OpR X (compareOp .LtE) (rCmp X.K .LtE) := by
  intro pins s σ H x y v u Q I rx ry ⟨ρ, μ, p, q, b, hm, hp, hq, e, h⟩
  simp only [cmpq] at e
  split at e
  · cases hp; cases hq; cases e
    exact op_le pins s σ H _ _ v u Q I rx ry ⟨_, _, rfl, rfl, h⟩
  · cases e
theorem op_geq : OpR X (compareOp .GtE) (rCmp X.K .GtE) := by
  intro pins s σ H x y v u Q I rx ry ⟨ρ, μ, p, q, b, hm, hp, hq, e, h⟩
  simp only [cmpq] at e
  split at e
  · cases hp; cases hq; cases e
    exact op_ge pins s σ H _ _ v u Q I rx ry ⟨_, _, rfl, rfl, h⟩
  · cases e
theorem isNon_rep {K : PySem.W.Frag} {p : PV} {x : V} (r : Rep K ρ H p x) : isNon p = decide (x = .non) := by
  cases r <;> simp [isNon]
theorem op_isq : OpR X (compareOp .Is) (rCmp X.K .Is) := by
  intro pins s σ H x y v u Q I rx ry ⟨ρ, μ, p, q, b, hm, hp, hq, e, h⟩
  simp only [cmpq, isq] at e
  split at e
  · cases hq; cases e
    rw [isNon_rep hp] at h
    exact op_isN pins s σ H _ _ v u Q I rx ry ⟨rfl, h⟩
  · cases hp; cases hq; cases e
    exact op_is_bl pins s σ H _ _ v u Q I rx ry ⟨_, _, rfl, rfl, by rw [← Bool.beq_eq_decide_eq]; exact h⟩
  · cases e
theorem op_isnotq : OpR X (compareOp .IsNot) (rCmp X.K .IsNot) := by
  intro pins s σ H x y v u Q I rx ry ⟨ρ, μ, p, q, b, hm, hp, hq, e, h⟩
  simp only [cmpq, isq] at e
  split at e
  · cases hq; cases e
    rw [isNon_rep hp] at h
    exact op_notN pins s σ H _ _ v u Q I rx ry ⟨rfl, h⟩
  · cases hp; cases hq; cases e
    exact op_isnot_bl pins s σ H _ _ v u Q I rx ry ⟨_, _, rfl, rfl, by rw [← Bool.beq_eq_decide_eq]; exact h⟩
  · cases e
end
/-! ### dicts: look-ups -/
section
variable {K : PySem.W.Frag} {ρ : Rho} {H : Hp} {μ : Mem}
theorem dgetR {H : Hp} {a : Addr} {kvs : List (Key × V)} {k : Key} (e : Rd H a (.dK kvs)) : DGet H a (kV k) (valV kvs k) := .inl ⟨kvs, k, e, rfl, rfl⟩
theorem dk_of' {p : PV} {v : V} {kvs : List (PV × PV)} (m : MemOk K ρ H μ) (r : Rep K ρ H p v) (e : dkOf μ p = some kvs) : ∃ a ks, v = .ref a ∧ Rd H a (.dK ks) ∧ RepK K ρ H kvs ks := by
  cases r with
  | dct n e1 rl => cases e; exact ⟨_, _, rfl, e1, rl⟩
  | @ref n a e1 =>
    obtain ⟨mo, e2, mr⟩ := m.all _ _ e1
    simp only [dkOf, e2] at e
    cases mr with
    | dct h1 h2 => cases e; exact ⟨_, _, rfl, .inl h1, h2⟩
    | lck h1 h2 => cases e; exact ⟨_, _, rfl, .inr ⟨_, h1⟩, h2⟩
    | lst _ _ => cases e
  | _ => cases e
theorem isKey_rep {p : PV} {v : V} (r : Rep K ρ H p v) (h : isKey p = true) : ∃ k, keyP p = some k ∧ v = kV k := by
  cases r <;> first | exact ⟨_, rfl, rfl⟩ | cases h
theorem keq_of {p q : PV} {k j : Key} (hp : keyP p = some k) (hq : keyP q = some j) : keq p q = decide (k = j) := by
  cases p <;> cases hp <;> cases q <;> cases hq
  · rename_i a b
    simp only [keq]
    rw [key_ll]
  · simp only [keq]; rw [key_lr]
  · simp only [keq]; rw [key_rl]
  · rename_i a b
    simp only [keq]
    rw [key_rr, ← str_beq, Bool.beq_eq_decide_eq]
theorem look_of {p : PV} {k : Key} (hp : keyP p = some k) : ∀ {kvs : List (PV × PV)} {ks : List (Key × V)}, RepK K ρ H kvs ks →
    (lookP kvs p = none ∧ valV ks k = none) ∨ ∃ q v, lookP kvs p = some q ∧ valV ks k = some v ∧ Rep K ρ H q v
  | _, _, .nil => .inl ⟨rfl, rfl⟩
  | _, _, .cons (p := p') (k := k') e h r => by
    have ek := keq_of e hp
    by_cases c : k' = k
    · rw [decide_eq_true c] at ek
      exact .inr ⟨_, _, by simp only [lookP, ek, if_true], valV_pos c, h⟩
    · rw [decide_eq_false c] at ek
      rw [valV_neg c]
      simp only [lookP, ek]
      exact look_of hp r
end
section
variable {X : Cx} {pins : List (Addr × Obj)} {σ : L2.St} {H : Hp} {s : Shared} {ρ : Rho} {μ : Mem}
theorem memN_eq (c : Nat) : ∀ l : List Nat, memN c l = decide (c ∈ l)
  | [] => by simp [memN]
  | d :: r => by
    simp only [memN, memN_eq c r, List.mem_cons]
    by_cases h : c = d <;> simp [h]
theorem op_inq (hu : X.A.units + 70 < cLine) : OpR X (compareOp .In) (rCmp X.K .In) := by
  intro pins s σ H x y v u Q I rx ry ⟨ρ, μ, p, q, b, hm, hp, hq, e, h⟩
  simp only [cmpq, inq] at e
  split at e
  · cases hp; cases hq; cases e
    exact op_in_sign pins s σ H _ _ v u Q I rx ry ⟨_, _, rfl, rfl, by simpa [memN_eq] using h⟩
  · split at e
    · rename_i kvs hk
      split at e
      · rename_i c
        cases e
        obtain ⟨a, ks, rfl, h1, r1⟩ := dk_of' hm hq hk
        obtain ⟨k, ek, rfl⟩ := isKey_rep hp c
        cases ry
        refine d_in (by omega) I (dgetR h1) rx fun s' I' => ⟨.bl _, H, I', rfl, ?_⟩
        rcases look_of ek r1 with ⟨z1, z2⟩ | ⟨q', v', z1, z2, _⟩
        · rw [z2]; rw [z1] at h; exact h
        · rw [z2]; rw [z1] at h; exact h
      · cases e
    · split at e
      · rename_i xs hs
        split at e
        · rename_i c
          simp only [Bool.and_eq_true] at c
          cases e
          obtain ⟨as, r1⟩ := reads_of I _ _ _ c.1 hp rx
          obtain ⟨a, vs, rfl, hsq, rl⟩ := sq_r hm hq hs
          cases ry
          have hd : X.A.units + 1 + min (PyData.depthAll (toDs xs)) (toD p).depth < cLine := by
            have h1 := dep_of _ c.1
            have h2 := dep_ofs _ c.2.1
            have h3 := Nat.le_of_ble_eq_true c.2.2
            omega
          rcases hsq with hsq | hsq
          · obtain ⟨bs, r2⟩ := reads_list I hsq fun us rv => reads_ofs I xs vs us c.2.1 rl rv
            exact SeqAt.in_list_data r2 r1 (plain_ofs _ c.2.1) (plain_of _ c.1) hd ⟨.bl _, H, I, by rw [any_eqv _ c.1 _ c.2.1]; rfl, h⟩
          · obtain ⟨bs, r2⟩ := reads_tup I hsq fun us rv => reads_ofs I xs vs us c.2.1 rl rv
            exact SeqAt.in_tuple_data r2 r1 (plain_ofs _ c.2.1) (plain_of _ c.1) hd ⟨.bl _, H, I, by rw [any_eqv _ c.1 _ c.2.1]; rfl, h⟩
        · cases e
      · cases e
theorem op_notinq (hu : X.A.units + 70 < cLine) : OpR X (compareOp .NotIn) (rCmp X.K .NotIn) := by
  intro pins s σ H x y v u Q I rx ry ⟨ρ, μ, p, q, b, hm, hp, hq, e, h⟩
  simp only [cmpq, inq] at e
  split at e
  · cases hp; cases hq; cases e
    exact op_notIn_sign pins s σ H _ _ v u Q I rx ry ⟨_, _, rfl, rfl, by simpa [memN_eq] using h⟩
  · split at e
    · rename_i kvs hk
      split at e
      · rename_i c
        cases e
        obtain ⟨a, ks, rfl, h1, r1⟩ := dk_of' hm hq hk
        obtain ⟨k, ek, rfl⟩ := isKey_rep hp c
        cases ry
        refine d_notIn (by omega) I (dgetR h1) rx fun s' I' => ⟨.bl _, H, I', rfl, ?_⟩
        rcases look_of ek r1 with ⟨z1, z2⟩ | ⟨q', v', z1, z2, _⟩
        · rw [z2]; rw [z1] at h; exact h
        · rw [z2]; rw [z1] at h; exact h
      · cases e
    · split at e
      · rename_i xs hs
        split at e
        · rename_i c
          simp only [Bool.and_eq_true] at c
          cases e
          obtain ⟨as, r1⟩ := reads_of I _ _ _ c.1 hp rx
          obtain ⟨a, vs, rfl, hsq, rl⟩ := sq_r hm hq hs
          cases ry
          have hd : X.A.units + 1 + min (PyData.depthAll (toDs xs)) (toD p).depth < cLine := by
            have h1 := dep_of _ c.1
            have h2 := dep_ofs _ c.2.1
            have h3 := Nat.le_of_ble_eq_true c.2.2
            omega
          rcases hsq with hsq | hsq
          · obtain ⟨bs, r2⟩ := reads_list I hsq fun us rv => reads_ofs I xs vs us c.2.1 rl rv
            exact SeqAt.notIn_list_data r2 r1 (plain_ofs _ c.2.1) (plain_of _ c.1) hd ⟨.bl _, H, I, by rw [any_eqv _ c.1 _ c.2.1]; rfl, h⟩
          · obtain ⟨bs, r2⟩ := reads_tup I hsq fun us rv => reads_ofs I xs vs us c.2.1 rl rv
            exact SeqAt.notIn_tuple_data r2 r1 (plain_ofs _ c.2.1) (plain_of _ c.1) hd ⟨.bl _, H, I, by rw [any_eqv _ c.1 _ c.2.1]; rfl, h⟩
        · cases e
      · cases e
theorem op_cmp (hu : X.A.units + 70 < cLine) : ∀ op : CmpOp, OpR X (compareOp op) (rCmp X.K op)
  | .Eq => op_eqq hu
  | .NotEq => op_neq hu
  | .Lt => op_ltq hu
  | .Gt => op_gtq hu
  | .LtE => op_leq
  | .GtE => op_geq
  | .Is => op_isq
  | .IsNot => op_isnotq
  | .In => op_inq hu
  | .NotIn => op_notinq hu
end
end HP
set_option Elab.async false
set_option linter.all false
set_option maxRecDepth 100000
set_option maxHeartbeats 4000000
namespace HP
open PySem PySem.Spec PyProof.Rows L2

/-! ### items -/
def idxq (p q : PV) (μ : Mem) : Option PV :=
  match q with
  | .int i => match p with
    | .str s => if Nat.ble s.length big then (atI s i).map (fun c => .str [c]) else none
    | p => match sqR μ p with
      | some xs => atI xs i
      | none => (dkOf μ p).bind fun kvs => lookP kvs (.int i)
  | .str a => (dkOf μ p).bind fun kvs => lookP kvs (.str a)
  | _ => none
theorem atI_rep {K : PySem.W.Frag} {ρ : Rho} {H : Hp} {xs : List PV} {vs : List V} {i : Int} {q : PV} (r : RepL K ρ H xs vs) (e : atI xs i = some q) : ∃ v, atI vs i = some v ∧ Rep K ρ H q v := by
  unfold atI at e ⊢
  rw [← r.length]
  cases h : ixN xs.length i with
  | none => rw [h] at e; cases e
  | some j =>
    rw [h] at e
    obtain ⟨v, e1, r1⟩ := r.get e
    exact ⟨v, e1, r1⟩
section
variable {X : Cx} {pins : List (Addr × Obj)} {σ : L2.St} {H : Hp} {s : Shared} {ρ : Rho} {μ : Mem}
def rIdx (K : PySem.W.Frag) : R2 := fun x y H Q => ∃ ρ μ p q r, MemOk K ρ H μ ∧ Rep K ρ H p x ∧ Rep K ρ H q y ∧ idxq p q μ = some r ∧ ∀ v, Rep K ρ H r v → Q v H
theorem ix_dk (hu : X.A.units + 70 < cLine) : IxR X (fun x y H Q => ∃ a ks k v, x = .ref a ∧ Rd H a (.dK ks) ∧ y = kV k ∧ valV ks k = some v ∧ Q v H) := by
  intro value slice pins s σ H x y v u Q I rx ry ⟨a, ks, k, r, ex, h1, ey, e, q⟩ hs
  subst ex ey
  cases rx
  have g : DGet H a (kV k) (some r) := by rw [← e]; exact dgetR h1
  exact tail_any (dict_typeIs I g) PySem.F.slot_dict_getitem.lookup (d_getItem (by omega) I g ry fun w' s' I' rw' => ⟨r, H, I', rw', q⟩) hs
theorem ix_q (hu : X.A.units + 70 < cLine) : IxR X (rIdx X.K) := by
  intro value slice pins s σ H x y v u Q I rx ry ⟨ρ, μ, p, q, r, hm, hp, hq, e, h⟩ hs
  unfold idxq at e
  have dict : ∀ k : PV, (∃ j, keyP k = some j ∧ y = kV j) → ((dkOf μ p).bind fun kvs => lookP kvs k) = some r → wpAny (model X.prog X.w) X.A (subscriptTail value slice v u) (EP X pins σ Q) X.xe s := fun k hk e => by
    obtain ⟨j, ek, ey⟩ := hk
    cases hd : dkOf μ p with
    | none => rw [hd] at e; cases e
    | some kvs =>
      rw [hd] at e
      have e : lookP kvs k = some r := e
      obtain ⟨a, ks, ex, h1, r1⟩ := dk_of' hm hp hd
      rcases look_of ek r1 with ⟨z, _⟩ | ⟨q', v', z1, z2, z3⟩
      · rw [z] at e; cases e
      · rw [z1] at e; cases e
        exact ix_dk hu value slice pins s σ H x y v u Q I rx ry ⟨a, ks, j, v', ex, h1, ey, z2, h _ z3⟩ hs
  split at e
  · rename_i i
    cases hq
    split at e
    · rename_i z
      cases hp
      split at e
      · rename_i c
        cases ha : atI z i with
        | none => rw [ha] at e; cases e
        | some c' =>
          rw [ha] at e
          cases e
          exact ix_str value slice pins s σ H _ _ v u Q I rx ry ⟨_, i, c', rfl, rfl, by simpa [Str.length] using ble_line c, by simpa using ha, h _ (.str [c'])⟩ hs
      · cases e
    · split at e
      · rename_i xs hx
        obtain ⟨a, vs, ex, hsq, rl⟩ := sq_r hm hp hx
        obtain ⟨w, ew, rw'⟩ := atI_rep rl e
        rcases hsq with hsq | hsq
        · exact ix_list value slice pins s σ H _ _ v u Q I rx ry ⟨a, vs, i, w, ex, rfl, hsq, ew, h _ rw'⟩ hs
        · exact ix_tup value slice pins s σ H _ _ v u Q I rx ry ⟨a, vs, i, w, ex, rfl, hsq, ew, h _ rw'⟩ hs
      · exact dict _ ⟨_, rfl, rfl⟩ e
  · cases hq
    exact dict _ ⟨_, rfl, rfl⟩ e
  · cases e
end

/-! ### slices -/
def cutP {α : Type} (xs : List α) (lo hi : Option Int) : List α := (xs.drop (HT.sIx xs.length 0 lo)).take (HT.sIx xs.length xs.length hi - HT.sIx xs.length 0 lo)
def slcq (m : Bool) (p : PV) (lo hi : Option Int) (μ : Mem) : R PV :=
  match p with
  | .str s => if Nat.ble s.length big then .ok (.str (cutP s lo hi)) μ else .bad
  | .tup xs => .ok (.tup (cutP xs lo hi)) μ
  | p => match lsR μ p with
    | some xs => newL m (cutP xs lo hi) μ
    | none => .bad
section
variable {X : Cx} {W : Nat → Option Addr → Hp → Prop} {att : Nat → Str}
theorem cut_rep {K : PySem.W.Frag} {ρ : Rho} {H : Hp} {xs : List PV} {vs : List V} (r : RepL K ρ H xs vs) (lo hi : Option Int) : RepL K ρ H (cutP xs lo hi) (cutV vs lo hi) := by
  unfold cutP cutV
  rw [← r.length]
  exact (r.drop _).take _
def rSlq (K : PySem.W.Frag) (m : Bool) (W : Nat → Option Addr → Hp → Prop) (att : Nat → Str) : V → Option Int → Option Int → Hp → VK → Prop := fun x lo hi H Q => ∃ ρ μ p, MemOk K ρ H μ ∧ Rep K ρ H p x ∧ Out K ρ H (slcq m p lo hi μ) Q W att
theorem sl_q (m : Bool) : SlR X (rSlq X.K m W att) := by
  intro pins s σ H x v vl vu lo hi sl Q I rx hs pl pu ⟨ρ, μ, p, hm, hp, o⟩
  unfold slcq at o
  split at o
  · cases hp
    split at o
    · rename_i z c
      refine sl_str pins s σ H _ v vl vu lo hi sl Q I rx hs pl pu ⟨_, rfl, by simpa [Str.length] using ble_line c, ?_⟩
      have h := out_val hm (.str _) o
      unfold cutS
      simpa [Str.length, cutP] using h
    · exact o.elim
  · cases hp with
    | tup n1 e1 d1 r1 =>
    refine sl_tupF pins s σ H _ v vl vu lo hi sl Q I rx hs pl pu ⟨_, _, rfl, frT e1, fun z => ?_, out_tup hm (cut_rep r1 lo hi) o⟩
    have r3 := cut_rep r1 lo hi
    rw [z] at r3
    exact out_val hm (.tup n1 e1 d1 r3) o
  · split at o
    · rename_i xs hx
      obtain ⟨a, vs, ex, hsq, rl⟩ := ls_r hm hp hx
      exact sl_list pins s σ H _ v vl vu lo hi sl Q I rx hs pl pu ⟨a, vs, ex, hsq, out_lst hm (cut_rep rl lo hi) o⟩
    · exact o.elim
end

/-! ### isinstance -/
inductive Ty where
  | int | bool | str | tup | lst | dct
def Ty.nm : Ty → String
  | .int => "int"
  | .bool => "bool"
  | .str => "str"
  | .tup => "tuple"
  | .lst => "list"
  | .dct => "dict"
/-- what a value is: its type's name, and which of the six it is -/
def kindP (μ : Mem) : PV → Nat
  | .non => 0
  | .bl _ => 1
  | .int _ => 2
  | .str _ => 3
  | .tup _ => 4
  | .lst _ => 5
  | .scr _ => 5
  | .dct _ => 6
  | .ref n => match μ[n]? with
    | some (.dct _) => 6
    | some (.lck _) => 6
    | _ => 5
def kindN : Nat → String
  | 0 => "NoneType"
  | 1 => "bool"
  | 2 => "int"
  | 3 => "str"
  | 4 => "tuple"
  | 5 => "list"
  | _ => "dict"
def kindIs (k : Nat) : Ty → Bool
  | .int => k == 1 || k == 2
  | .bool => k == 1
  | .str => k == 3
  | .tup => k == 4
  | .lst => k == 5
  | .dct => k == 6
def isT (μ : Mem) (p : PV) (ts : List Ty) : Bool := ts.any (kindIs (kindP μ p))
theorem kindP_lt (μ : Mem) (p : PV) : kindP μ p < 7 := by
  cases p <;> simp [kindP]
  split <;> omega
def tyAll : List Ty := [.int, .bool, .str, .tup, .lst, .dct]
theorem kit_all : ([0, 1, 2, 3, 4, 5, 6].all fun k => tyAll.all fun t => decide (kitB (kindN k) t.nm = some (kindIs k t))) = true := by decide +kernel
theorem kit_kind (k : Nat) (hk : k < 7) (t : Ty) : kitB (kindN k) t.nm = some (kindIs k t) := by
  have h1 : k ∈ [0, 1, 2, 3, 4, 5, 6] := by
    simp only [List.mem_cons, List.not_mem_nil, or_false]
    omega
  have h2 : t ∈ tyAll := by cases t <;> simp [tyAll]
  exact of_decide_eq_true (List.all_eq_true.mp (List.all_eq_true.mp kit_all k h1) t h2)
section
variable {X : Cx} {H : Hp} {ρ : Rho} {μ : Mem}
theorem ty_of {K : PySem.W.Frag} {p : PV} {x : V} (hm : MemOk K ρ H μ) (r : Rep K ρ H p x) : TyX K H x (.type (kindN (kindP μ p))) := by
  cases r with
  | non => exact .base .non
  | bl b => exact .base (.bl b)
  | int i => exact .base (.int i)
  | str z => exact .base (.str _)
  | tup n e d r => exact .fTuple e
  | lst n e r => exact .base (.lst e)
  | dct n e r => exact e.elim (fun e => .base (.dK e)) fun ⟨_, e⟩ => .fDict e
  | scr n e =>
    rcases e with e | ⟨o, e⟩
    · exact .base (.lst e)
    · exact .base (.frz e)
  | scrK e =>
    obtain ⟨o, its, n, e1, e2, _⟩ := e
    exact .kList e1 e2
  | @ref n a e =>
    obtain ⟨mo, e2, mr⟩ := hm.all _ _ e
    cases mr with
    | lst h1 h2 => simp only [kindP, e2, kindN]; exact .base (.lst h1)
    | dct h1 h2 => simp only [kindP, e2, kindN]; exact .base (.dK h1)
    | lck h1 h2 => simp only [kindP, e2, kindN]; exact .fDict h1
theorem kit_any {K : PySem.W.Frag} (k : Nat) (hk : k < 7) : ∀ ts : List Ty, PySem.W.kitAny K (.type (kindN k)) (ts.map fun t => .type t.nm) = some (ts.any (kindIs k))
  | [] => kitAny_nil
  | t :: ts => by
    have h := kit_kind k hk t
    refine kitAny_cons (kit_ty h) (fun e => ?_) fun e => ?_
    · have e : kindIs k t = false := e
      rw [List.any_cons, e, Bool.false_or]; exact kit_any k hk ts
    · have e : kindIs k t = true := e
      rw [List.any_cons, e, Bool.true_or]
/-- isinstance(x, T) -/
theorem call_isq1 (t : Ty) : CallR X (.builtin "isinstance") (fun xs H Q => ∃ ρ μ p x, MemOk X.K ρ H μ ∧ Rep X.K ρ H p x ∧ xs = [x, .ty t.nm] ∧ Q (.bl (isT μ p [t])) H) := by
  intro pins s σ H xs us Q I r ⟨ρ, μ, p, x, hm, hp, ex, q⟩
  refine call_isi pins s σ H xs us Q I r ⟨x, _, _, _, _, ex, .ty _, ty_of hm hp, kit_ty (kit_kind _ (kindP_lt μ p) t), ?_⟩
  simpa [isT] using q
theorem clsV_tys : ∀ ts : List Ty, Paired ClsV (ts.map fun t => V.ty t.nm) (ts.map fun t => Value.type t.nm)
  | [] => .nil
  | t :: ts => .cons (.ty _) (clsV_tys ts)
/-- isinstance(x, (T, ..)): the tuple just laid -/
theorem call_isqT (ts : List Ty) : CallR X (.builtin "isinstance") (fun xs H Q => ∃ ρ μ p x tp, MemOk X.K ρ H μ ∧ Rep X.K ρ H p x ∧ xs = [x, .ref tp] ∧ H tp = some (.tup (ts.map fun t => V.ty t.nm)) ∧ Q (.bl (isT μ p ts)) H) := by
  intro pins s σ H xs us Q I r ⟨ρ, μ, p, x, tp, hm, hp, ex, ht, q⟩
  exact call_isiT pins s σ H xs us Q I r ⟨x, tp, _, _, _, _, ex, ht, clsV_tys ts, ty_of hm hp, kit_any _ (kindP_lt μ p) ts, q⟩
end
end HP
set_option Elab.async false
set_option linter.all false
set_option maxRecDepth 100000
set_option maxHeartbeats 4000000
namespace HP
open PySem PySem.Spec PyProof.Rows L2

/-! ### lists of ints, of bools -/
def asInts : List PV → Option (List Int)
  | [] => some []
  | .int i :: r => (asInts r).map (i :: ·)
  | _ :: _ => none
def asBls : List PV → Option (List Bool)
  | [] => some []
  | .bl b :: r => (asBls r).map (b :: ·)
  | _ :: _ => none
def asStrs : List PV → Option (List (List Nat))
  | [] => some []
  | .str s :: r => (asStrs r).map (s :: ·)
  | _ :: _ => none
def stN (s : List Nat) : Str := ⟨s.toArray⟩
section
variable {K : PySem.W.Frag} {ρ : Rho} {H : Hp}
theorem ints_rep : ∀ {xs : List PV} {vs : List V} {ns : List Int}, RepL K ρ H xs vs → asInts xs = some ns → vs = ns.map V.int
  | _, _, _, .nil, e => by cases e; rfl
  | p :: ps, _, ns, .cons h r, e => by
    cases p with
    | int i =>
      simp only [asInts] at e
      cases e2 : asInts ps with
      | none => rw [e2] at e; cases e
      | some ms =>
        rw [e2] at e
        cases e
        cases h
        rw [ints_rep r e2]; rfl
    | _ => cases e
theorem bls_rep : ∀ {xs : List PV} {vs : List V} {ns : List Bool}, RepL K ρ H xs vs → asBls xs = some ns → vs = ns.map V.bl
  | _, _, _, .nil, e => by cases e; rfl
  | p :: ps, _, ns, .cons h r, e => by
    cases p with
    | bl i =>
      simp only [asBls] at e
      cases e2 : asBls ps with
      | none => rw [e2] at e; cases e
      | some ms =>
        rw [e2] at e
        cases e
        cases h
        rw [bls_rep r e2]; rfl
    | _ => cases e
theorem strs_rep : ∀ {xs : List PV} {vs : List V} {ns : List (List Nat)}, RepL K ρ H xs vs → asStrs xs = some ns → vs = ns.map fun s => V.str (stN s)
  | _, _, _, .nil, e => by cases e; rfl
  | p :: ps, _, ns, .cons h r, e => by
    cases p with
    | str i =>
      simp only [asStrs] at e
      cases e2 : asStrs ps with
      | none => rw [e2] at e; cases e
      | some ms =>
        rw [e2] at e
        cases e
        cases h
        rw [strs_rep r e2]; rfl
    | _ => cases e
theorem RepL.bls : ∀ (ns : List Bool), RepL K ρ H (ns.map PV.bl) (ns.map V.bl)
  | [] => .nil
  | n :: r => .cons (.bl n) (RepL.bls r)
end

/-! ### in order -/
def insI (x : Int) : List Int → List Int
  | [] => [x]
  | y :: r => if decide (x ≤ y) then x :: y :: r else y :: insI x r
def sortI : List Int → List Int
  | [] => []
  | x :: r => insI x (sortI r)
theorem insI_perm (x : Int) : ∀ l, (insI x l).Perm (x :: l)
  | [] => .refl _
  | y :: r => by
    simp only [insI]
    split
    · exact .refl _
    · exact ((insI_perm x r).cons y).trans (.swap x y r)
theorem sortI_perm : ∀ l, (sortI l).Perm l
  | [] => .refl _
  | x :: r => (insI_perm x _).trans ((sortI_perm r).cons x)
theorem insI_sorted (x : Int) : ∀ l, l.Pairwise (· ≤ ·) → (insI x l).Pairwise (· ≤ ·)
  | [], _ => by simp [insI]
  | y :: r, h => by
    simp only [insI]
    obtain ⟨h1, h2⟩ := List.pairwise_cons.mp h
    split
    · rename_i c
      have c := of_decide_eq_true c
      refine List.pairwise_cons.mpr ⟨fun z hz => ?_, h⟩
      rcases List.mem_cons.mp hz with e | hz
      · rw [e]; exact c
      · exact Int.le_trans c (h1 z hz)
    · rename_i c
      have c : ¬ x ≤ y := fun z => c (decide_eq_true z)
      refine List.pairwise_cons.mpr ⟨fun z hz => ?_, insI_sorted x r h2⟩
      rcases List.mem_cons.mp ((insI_perm x r).mem_iff.mp hz) with e | hz
      · rw [e]; omega
      · exact h1 z hz
theorem sortI_sorted : ∀ l, (sortI l).Pairwise (· ≤ ·)
  | [] => .nil
  | x :: r => insI_sorted x _ (sortI_sorted r)
theorem sorted_one {l m : List Int} (p : l.Perm m) (h1 : l.Pairwise (· ≤ ·)) (h2 : m.Pairwise (· ≤ ·)) : l = m := by
  induction l generalizing m with
  | nil => exact (List.nil_perm.mp p).symm
  | cons x r ih =>
    cases m with
    | nil => exact absurd p.length_eq (by simp)
    | cons y t =>
      obtain ⟨a1, a2⟩ := List.pairwise_cons.mp h1
      obtain ⟨b1, b2⟩ := List.pairwise_cons.mp h2
      have e : x = y := by
        have hx : x ∈ y :: t := p.mem_iff.mp List.mem_cons_self
        have hy : y ∈ x :: r := p.mem_iff.mpr List.mem_cons_self
        rcases List.mem_cons.mp hx with e | hx
        · exact e
        · rcases List.mem_cons.mp hy with e | hy
          · exact e.symm
          · exact Int.le_antisymm (a1 y hy) (b1 x hx)
      subst e
      rw [ih p.cons_inv a2 b2]
theorem sort_uniq {l m : List Int} (p : m.Perm l) (h : m.Pairwise (· ≤ ·)) : m = sortI l := sorted_one (p.trans (sortI_perm l).symm) h (sortI_sorted l)

/-! ### pairs to a dict -/
def putP (k v : PV) : List (PV × PV) → List (PV × PV)
  | [] => [(k, v)]
  | (j, w) :: r => if keq j k then (j, v) :: r else (j, w) :: putP k v r
def mergeP (acc : List (PV × PV)) : List (PV × PV) → List (PV × PV)
  | [] => acc
  | (k, v) :: r => mergeP (putP k v acc) r
def asPairs : List PV → Option (List (PV × PV))
  | [] => some []
  | .tup [k, v] :: r => if isKey k then (asPairs r).map ((k, v) :: ·) else none
  | _ :: _ => none
def nodupK : List (PV × PV) → Bool
  | [] => true
  | (k, _) :: r => (lookP r k).isNone && nodupK r
section
variable {K : PySem.W.Frag} {ρ : Rho} {H : Hp}
theorem keyP_of {k : PV} (h : isKey k = true) : ∃ j, keyP k = some j := by
  cases k <;> first | exact ⟨_, rfl⟩ | cases h
/-- a store at a key: with no key twice -/
theorem put_rep {k : PV} {j : Key} {q : PV} {v : V} (ek : keyP k = some j) (hv : Rep K ρ H q v) : ∀ {kvs : List (PV × PV)} {ks : List (Key × V)}, (ks.map (·.1)).Nodup → RepK K ρ H kvs ks → RepK K ρ H (putP k q kvs) (putK ks j v)
  | _, _, _, .nil => .cons ek hv .nil
  | (p', q') :: ps, (k', v') :: vs, nd, .cons e h r => by
    have nd' := List.nodup_cons.mp (show (k' :: vs.map (·.1)).Nodup from nd)
    have ih := put_rep (kvs := ps) (ks := vs) ek hv nd'.2 r
    have eq := keq_of e ek
    simp only [putP]
    by_cases c : k' = j
    · subst c
      rw [decide_eq_true rfl] at eq
      rw [eq, if_pos rfl]
      have e1 : putK ((k', v') :: vs) k' v = (k', v) :: vs := by
        have hm : (vs.map fun kv => if kv.1 = k' then (kv.1, v) else kv) = vs := by
          conv => rhs; rw [← List.map_id vs]
          refine List.map_congr_left fun kv hkv => ?_
          rw [if_neg (fun z => nd'.1 (List.mem_map.mpr ⟨kv, hkv, z⟩))]
          rfl
        simp [putK, hm]
      rw [e1]
      exact .cons e hv r
    · rw [decide_eq_false c] at eq
      rw [eq]
      simp only [Bool.false_eq_true, if_false]
      have e1 : putK ((k', v') :: vs) j v = (k', v') :: putK vs j v := by
        simp only [putK, List.any_cons, decide_eq_false c, Bool.false_or, List.map_cons]
        split
        · rfl
        · rfl
      rw [e1]
      exact .cons e h ih
end
end HP
set_option Elab.async false
set_option linter.all false
set_option maxRecDepth 100000
set_option maxHeartbeats 4000000
namespace HP
open PySem PySem.Spec PyProof.Rows L2

section
variable {K : PySem.W.Frag} {ρ : Rho} {H : Hp}
theorem nodup_put {j : Key} {v : V} : ∀ {ks : List (Key × V)}, (ks.map (·.1)).Nodup → ((putK ks j v).map (·.1)).Nodup := fun {ks} nd => by
  unfold putK
  by_cases c : (ks.any fun kv => decide (kv.1 = j)) = true
  · rw [if_pos c, List.map_map]
    have e : ((fun x : Key × V => x.1) ∘ fun kv => if kv.1 = j then (kv.1, v) else kv) = fun x => x.1 := by
      funext kv
      simp only [Function.comp]
      split <;> rfl
    rw [e]; exact nd
  · rw [if_neg c, List.map_append, List.nodup_append]
    refine ⟨nd, by simp, fun a ha b hb => ?_⟩
    obtain ⟨kv, h1, rfl⟩ := List.mem_map.mp ha
    have hb : b = j := by simpa using hb
    subst hb
    intro z
    exact c (List.any_eq_true.mpr ⟨kv, h1, decide_eq_true z⟩)
theorem merge_rep : ∀ (ms : List (PV × PV)) (ks : List (Key × V)) (acc : List (PV × PV)) (ak : List (Key × V)), RepK K ρ H ms ks → (ak.map (·.1)).Nodup → RepK K ρ H acc ak → RepK K ρ H (mergeP acc ms) (mergeK ak ks) := by
  intro ms
  induction ms with
  | nil =>
    intro ks acc ak h nd r
    cases h
    exact r
  | cons m ms ih =>
    intro ks acc ak h nd r
    cases h with
    | @cons p q k v ps vs e h t =>
      show RepK K ρ H (mergeP (putP p q acc) ms) (mergeK (putK ak k v) vs)
      exact ih _ _ _ t (nodup_put nd) (put_rep e h nd r)
/-- the items are pairs -/
theorem RepL.two {k q : PV} {vs : List V} (r : RepL K ρ H [k, q] vs) : ∃ v w, vs = [v, w] ∧ Rep K ρ H k v ∧ Rep K ρ H q w := by
  cases r with
  | cons h t =>
    cases t with
    | cons h2 t2 =>
      cases t2
      exact ⟨_, _, rfl, h, h2⟩
def asPair : PV → Option (PV × PV)
  | .tup [k, v] => if isKey k then some (k, v) else none
  | _ => none
def asPrs : List PV → Option (List (PV × PV))
  | [] => some []
  | p :: r => match asPair p with
    | some q => (asPrs r).map (q :: ·)
    | none => none
theorem pair_inv {p : PV} {q : PV × PV} (h : asPair p = some q) : p = .tup [q.1, q.2] ∧ isKey q.1 = true := by
  unfold asPair at h
  split at h
  · split at h
    · rename_i c
      cases h
      exact ⟨rfl, c⟩
    · cases h
  · cases h
theorem tup_inv {xs : List PV} {v : V} (h : Rep K ρ H (.tup xs) v) : ∃ a vs o, v = .ref a ∧ H a = some (.frz o (.tup vs)) ∧ o.dict = none ∧ RepL K ρ H xs vs := by
  cases h with
  | tup n e d r => exact ⟨_, _, _, rfl, e, d, r⟩
theorem pairs_rep : ∀ (xs : List PV) (vs : List V) (ms : List (PV × PV)), RepL K ρ H xs vs → asPrs xs = some ms → ∃ (ps : List Addr) (kvs : List (Key × V)), vs = ps.map V.ref ∧ Paired (fun p kv => SqT K H p [kV kv.1, kv.2]) ps kvs ∧ RepK K ρ H ms kvs := by
  intro xs
  induction xs with
  | nil =>
    intro vs ms r e
    cases r
    cases e
    exact ⟨[], [], rfl, .nil, .nil⟩
  | cons x xs ih =>
    intro vs ms r e
    simp only [asPrs] at e
    cases e1 : asPair x with
    | none => rw [e1] at e; cases e
    | some q =>
      rw [e1] at e
      cases e2 : asPrs xs with
      | none => rw [e2] at e; cases e
      | some m2 =>
        rw [e2] at e
        cases e
        cases r with
        | cons h t =>
          obtain ⟨ps, kvs, rfl, h1, h2⟩ := ih _ _ t e2
          obtain ⟨rfl, c⟩ := pair_inv e1
          obtain ⟨a, ws, o, rfl, ea, _, rl⟩ := tup_inv h
          obtain ⟨v, w, rfl, r1, r2⟩ := rl.two
          obtain ⟨j, ej, rfl⟩ := isKey_rep r1 c
          exact ⟨a :: ps, (j, w) :: kvs, rfl, .cons (.inl (.inr ⟨o, ea⟩)) h1, .cons ej r2 h2⟩
end
section
variable {X : Cx} {ρ : Rho} {H : Hp} {μ : Mem} {W : Nat → Option Addr → Hp → Prop} {att : Nat → Str}
/-- dict(xs) of a list or a tuple of pairs -/
theorem call_dictQ (hcalm : X.calm = true) : CallR X (.type "dict") (fun xs H Q => ∃ (a : Addr) (ps : List Addr) (kvs : List (Key × V)), xs = [.ref a] ∧ (SqL X.K H a (ps.map V.ref) ∨ ∃ o : Obj, H a = some (.frz o (.tup (ps.map V.ref))) ∧ o.dict = none) ∧ Paired (fun p kv => SqT X.K H p [kV kv.1, kv.2]) ps kvs ∧
    ∀ p, H p = none → Q (.ref p) (upd H p (.dK (mergeK [] kvs)))) := by
  intro pins s σ H xs us Q I r q
  obtain ⟨a, ps, kvs, ex, hq, hp, q⟩ := q
  rcases hq with hq | ⟨o, e, ed⟩
  · exact call_dictP hcalm pins s σ H xs us Q I r ⟨a, ps, kvs, ex, hq, hp, q⟩
  subst ex
  obtain ⟨u, eu, rx⟩ := vals1 r
  subst eu
  cases rx
  obtain ⟨h0, hz, its, rv, o', h1, hc, n, hd⟩ := I.hok a _ e
  have eo : o' = o := by rw [h0] at h1; exact (Option.some.inj h1).symm
  subst eo
  have ei := refs_at rv
  subst ei
  rw [List.length_map] at hz
  obtain ⟨prs, rel, hl, hpr⟩ := pairs_of I hp
  have key : ∀ j : Nat, j < ps.length → ∃ u : Value, ∀ q, prs[j]? = some q → ∃ b, ps[j]? = some b ∧ IsTup s.heap b #[u, q.2] ∧ keyIs q.1 u = true := fun j hj => by
    obtain ⟨q, hq⟩ : ∃ q, prs[j]? = some q := ⟨prs[j]'(by omega), List.getElem?_eq_getElem _⟩
    obtain ⟨b, u, e1, e2, e3⟩ := hpr j q hq
    exact ⟨u, fun q' hq' => by rw [hq] at hq'; cases hq'; exact ⟨b, e1, e2, e3⟩⟩
  let kf : Nat → Value := fun j => if h : j < ps.length then (key j h).choose else .none
  let pl : List (Value × Value) := (List.range ps.length).map fun j => (kf j, (prs.getD j (.inl 0, .none)).2)
  have hpl : ∀ j k v, pl[j]? = some (k, v) → j < ps.length ∧ k = kf j ∧ ∃ q, prs[j]? = some q ∧ v = q.2 := fun j k v h => by
    have hj : j < ps.length := by
      have := (List.getElem?_eq_some_iff.mp h).1
      simpa [pl] using this
    have hq : prs[j]? = some (prs[j]'(by omega)) := List.getElem?_eq_getElem _
    simp only [pl, List.getElem?_map, List.getElem?_range hj, Option.map_some, Option.some.injEq, Prod.mk.injEq] at h
    refine ⟨hj, h.1.symm, _, hq, ?_⟩
    rw [← h.2, List.getD_eq_getElem?_getD, hq]; rfl
  have hkf : ∀ j (hj : j < ps.length), ∀ q, prs[j]? = some q → ∃ b, ps[j]? = some b ∧ IsTup s.heap b #[kf j, q.2] ∧ keyIs q.1 (kf j) = true := fun j hj q hq => by
    have h := (key j hj).choose_spec q hq
    simp only [kf, dif_pos hj]; exact h
  refine PySem.call_dict_pairs (knd := mixKind X.prog X.w) (kvs := prs) (PairArg.tuple a (ps.map Value.ref).toArray (fun j => ps.getD j 0) pl) (I.ok.hd hcalm)
    ⟨⟨o', n, h0, hc, ed, hd⟩, by simp [pl], fun j k v h => ?_⟩ ⟨by simp [pl, hl], fun i key' v h => ?_⟩ (by simp [pl]; exact hz) fun h' tk hd' k => ?_
  · obtain ⟨hj, rfl, q', hq', rfl⟩ := hpl j k v h
    obtain ⟨b, e1, e2, e3⟩ := hkf j hj q' hq'
    have e4 : ps.getD j 0 = b := by rw [List.getD_eq_getElem?_getD, e1]; rfl
    refine ⟨by simp [e1], .inl ?_⟩
    show s.heap.IsTuple (ps.getD j 0) _
    rw [e4]
    exact e2
  · obtain ⟨hj, rfl, q', hq', rfl⟩ := hpl i key' v h
    obtain ⟨b, e1, e2, e3⟩ := hkf i hj q' hq'
    exact ⟨q'.1, hq', e3⟩
  · have hm : (s.heap.objs.size == sysModules) = false := beq_eq_false_iff_ne.mpr (Nat.ne_of_gt I.big)
    have hlen : (mergeK [] kvs).length ≤ sizeLine := by
      refine Nat.le_trans (length_mergeK kvs []) ?_
      rw [List.length_nil, Nat.zero_add, rel.length, hl]
      exact hz
    exact ⟨.ref s.heap.objs.size, upd H s.heap.objs.size (.dK (mergeK [] kvs)), I.laid (t' := tk) (fun b o e => k b o (fun z => nomatch z) e) (Nat.le_refl _) (show ObjOk X.prog X.w _ _ _ (.dK (mergeK [] kvs)) from ⟨hlen, hm, merged [] prs, KV.merge rel .nil, hd'⟩), rfl, q _ (I.hok.fresh (Nat.le_refl _))⟩
end
end HP
set_option Elab.async false
set_option linter.all false
set_option maxRecDepth 100000
set_option maxHeartbeats 4000000
namespace HP
open PySem PySem.Spec PyProof.Rows L2

/-! ### built-in functions -/
inductive BF where
  | len | abs | max | min | sum | sorted | all | any | list | tuple | dict | int | str
  deriving DecidableEq
def BF.val : BF → Value
  | .len => .builtin "len"
  | .abs => .builtin "abs"
  | .max => .builtin "max"
  | .min => .builtin "min"
  | .sum => .builtin "sum"
  | .sorted => .builtin "sorted"
  | .all => .builtin "all"
  | .any => .builtin "any"
  | .list => .type "list"
  | .tuple => .type "tuple"
  | .dict => .type "dict"
  | .int => .type "int"
  | .str => .type "str"
def BF.nm : BF → Str
  | .len => "len"
  | .abs => "abs"
  | .max => "max"
  | .min => "min"
  | .sum => "sum"
  | .sorted => "sorted"
  | .all => "all"
  | .any => "any"
  | .list => "list"
  | .tuple => "tuple"
  | .dict => "dict"
  | .int => "int"
  | .str => "str"
def lenQ (p : PV) (μ : Mem) : Option Int :=
  match p with
  | .str s => if Nat.ble s.length big then some (Int.ofNat s.length) else none
  | p => match sqR μ p with
    | some xs => some (Int.ofNat xs.length)
    | none => match dkOf μ p with
      | some kvs => some (Int.ofNat kvs.length)
      | none => none
def dictQ (m : Bool) (p : PV) (μ : Mem) : R PV :=
  match dkOf μ p with
  | some kvs => newD m kvs μ
  | none => match sqR μ p with
    | some xs => match asPrs xs with
      | some ms => newD m (mergeP [] ms) μ
      | none => .bad
    | none => .bad
def tupleQ (p : PV) (μ : Mem) : R PV :=
  match p with
  | .tup xs => .ok (.tup xs) μ
  | p => match lsR μ p with
    | some xs => .ok (.tup xs) μ
    | none => .bad
def listQ (m : Bool) (p : PV) (μ : Mem) : R PV :=
  match sqR μ p with
  | some xs => newL m xs μ
  | none => .bad
def sumQ (p : PV) (μ : Mem) : Option Int := (lsR μ p).bind fun xs => (asInts xs).map List.sum
def allQ (p : PV) (μ : Mem) : Option Bool := (lsR μ p).bind fun xs => (asBls xs).map fun bs => bs.all id
def anyQ (p : PV) (μ : Mem) : Option Bool := (lsR μ p).bind fun xs => (asBls xs).map fun bs => bs.any id
def sortedQ (m : Bool) (p : PV) (μ : Mem) : R PV :=
  match dkOf μ p with
  | some kvs => match asInts (kvs.map (·.1)) with
    | some ns => if Nat.blt ns.length 64 then newL m ((sortI ns).map PV.int) μ else .bad
    | none => .bad
  | none => match (lsR μ p).bind asInts with
    | some ns => newL m ((sortI ns).map PV.int) μ
    | none => .bad
def okI (o : Option Int) (μ : Mem) : R PV :=
  match o with
  | some i => .ok (.int i) μ
  | none => .bad
def okB (o : Option Bool) (μ : Mem) : R PV :=
  match o with
  | some i => .ok (.bl i) μ
  | none => .bad
def intQ : PV → Option Int
  | .int i => some i
  | .bl b => some (if b then 1 else 0)
  | _ => none
def absQ : PV → Option Int
  | .int i => some (if i < 0 then -i else i)
  | _ => none
def maxQ : PV → PV → Option Int
  | .int i, .int j => some (if j > i then j else i)
  | _, _ => none
def minQ : PV → PV → Option Int
  | .int i, .int j => some (if j < i then j else i)
  | _, _ => none
def bf1 (m : Bool) (b : BF) (p : PV) (μ : Mem) : R PV :=
  match b with
  | .len => okI (lenQ p μ) μ
  | .abs => okI (absQ p) μ
  | .sum => okI (sumQ p μ) μ
  | .sorted => sortedQ m p μ
  | .all => okB (allQ p μ) μ
  | .any => okB (anyQ p μ) μ
  | .list => listQ m p μ
  | .tuple => tupleQ p μ
  | .dict => dictQ m p μ
  | .int => okI (intQ p) μ
  | _ => .bad
def bf2 (b : BF) (p q : PV) (μ : Mem) : R PV :=
  match b with
  | .max => okI (maxQ p q) μ
  | .min => okI (minQ p q) μ
  | _ => .bad
section
variable {X : Cx} {ρ : Rho} {H : Hp} {μ : Mem} {W : Nat → Option Addr → Hp → Prop} {att : Nat → Str}
/-- one argument -/
def rBF1 (K : PySem.W.Frag) (m : Bool) (b : BF) (W : Nat → Option Addr → Hp → Prop) (att : Nat → Str) : List V → Hp → VK → Prop := fun vs H Q => ∃ ρ μ p v, vs = [v] ∧ MemOk K ρ H μ ∧ Rep K ρ H p v ∧ Out K ρ H (bf1 m b p μ) Q W att
def rBF2 (K : PySem.W.Frag) (b : BF) (W : Nat → Option Addr → Hp → Prop) (att : Nat → Str) : List V → Hp → VK → Prop := fun vs H Q => ∃ ρ μ p q v w, vs = [v, w] ∧ MemOk K ρ H μ ∧ Rep K ρ H p v ∧ Rep K ρ H q w ∧ Out K ρ H (bf2 b p q μ) Q W att
theorem CallR.use {f : Value} {r r' : List V → Hp → VK → Prop} (h : CallR X f r) (hh : ∀ vs H Q, r' vs H Q → r vs H Q) : CallR X f r' := fun pins s σ H xs us Q I rs q => h pins s σ H xs us Q I rs (hh _ _ _ q)
theorem CallR.cases {f : Value} {r' : List V → Hp → VK → Prop} (h : ∀ vs H Q, r' vs H Q → ∃ r, CallR X f r ∧ r vs H Q) : CallR X f r' := fun pins s σ H xs us Q I rs q => by
  obtain ⟨r, c, h⟩ := h _ _ _ q
  exact c pins s σ H xs us Q I rs h
theorem out_okI {K : PySem.W.Frag} {o : Option Int} {Q : VK} (hm : MemOk K ρ H μ) (h : Out K ρ H (okI o μ) Q W att) : ∃ i, o = some i ∧ Q (.int i) H := by
  cases o with
  | none => exact h.elim
  | some i => exact ⟨i, rfl, out_val hm (.int i) h⟩
theorem out_okB {K : PySem.W.Frag} {o : Option Bool} {Q : VK} (hm : MemOk K ρ H μ) (h : Out K ρ H (okB o μ) Q W att) : ∃ i, o = some i ∧ Q (.bl i) H := by
  cases o with
  | none => exact h.elim
  | some i => exact ⟨i, rfl, out_val hm (.bl i) h⟩
theorem cq_len (m : Bool) : CallR X (.builtin "len") (rBF1 X.K m .len W att) := by
  refine CallR.cases fun vs H Q h => ?_
  obtain ⟨ρ, μ, p, v, rfl, hm, r, o⟩ := h
  obtain ⟨i, e, q⟩ := out_okI hm o
  unfold lenQ at e
  split at e
  · rename_i s
    split at e
    · rename_i c
      cases e
      cases r
      exact ⟨_, call_len_str, _, rfl, (by simpa [Str.length] using ble_line c), by simpa [Str.length] using q⟩
    · cases e
  · split at e
    · rename_i xs hs
      cases e
      obtain ⟨a, ws, rfl, h1, h2⟩ := sq_r hm r hs
      exact ⟨_, call_len_seq, a, ws, rfl, h1, by rw [← h2.length]; exact q⟩
    · split at e
      · rename_i kvs hd
        cases e
        obtain ⟨a, ks, rfl, h1, h2⟩ := dk_of' hm r hd
        refine ⟨fun xs H Q => ∃ a ks, xs = [.ref a] ∧ Rd H a (.dK ks) ∧ Q (.int (Int.ofNat ks.length)) H, ?_, a, ks, rfl, h1, ?_⟩
        · intro pins s σ H xs us Q I rs ⟨a, ks, ex, h1, q⟩
          subst ex
          obtain ⟨u, eu, rx⟩ := vals1 rs
          subst eu
          cases rx
          exact d_len I h1 fun t s' I' => ⟨.int (Int.ofNat ks.length), H, I', ⟨t, rfl⟩, q⟩
        · have hl : ∀ {kvs : List (PV × PV)} {ks : List (Key × V)}, RepK X.K ρ H kvs ks → kvs.length = ks.length := by
            intro kvs
            induction kvs with
            | nil => intro ks r; cases r; rfl
            | cons k kvs ih => intro ks r; cases r with | cons _ _ t => simp [ih t]
          rw [← hl h2]; exact q
      · cases e
theorem cq_abs (m : Bool) : CallR X (.builtin "abs") (rBF1 X.K m .abs W att) := by
  refine CallR.cases fun vs H Q h => ?_
  obtain ⟨ρ, μ, p, v, rfl, hm, r, o⟩ := h
  obtain ⟨i, e, q⟩ := out_okI hm o
  unfold absQ at e
  split at e
  · cases e; cases r
    exact ⟨_, call_abs, _, rfl, q⟩
  · cases e
theorem cq_int (m : Bool) : CallR X (.type "int") (rBF1 X.K m .int W att) := by
  refine CallR.cases fun vs H Q h => ?_
  obtain ⟨ρ, μ, p, v, rfl, hm, r, o⟩ := h
  obtain ⟨i, e, q⟩ := out_okI hm o
  unfold intQ at e
  split at e
  · cases e; cases r
    exact ⟨_, call_int1, .inl ⟨_, rfl, q⟩⟩
  · cases e; cases r
    exact ⟨_, call_int1, .inr ⟨_, rfl, q⟩⟩
  · cases e
theorem cq_max (hc : X.calm = true) : CallR X (.builtin "max") (rBF2 X.K .max W att) := by
  refine CallR.cases fun vs H Q h => ?_
  obtain ⟨ρ, μ, p, q, v, w, rfl, hm, r, r2, o⟩ := h
  obtain ⟨i, e, q⟩ := out_okI hm o
  unfold maxQ at e
  split at e
  · cases e; cases r; cases r2
    exact ⟨_, call_max2 hc, _, _, rfl, q⟩
  · cases e
theorem cq_min (hc : X.calm = true) : CallR X (.builtin "min") (rBF2 X.K .min W att) := by
  refine CallR.cases fun vs H Q h => ?_
  obtain ⟨ρ, μ, p, q, v, w, rfl, hm, r, r2, o⟩ := h
  obtain ⟨i, e, q⟩ := out_okI hm o
  unfold minQ at e
  split at e
  · cases e; cases r; cases r2
    exact ⟨_, call_min2 hc, _, _, rfl, q⟩
  · cases e
theorem cq_sum (hc : X.calm = true) (m : Bool) : CallR X (.builtin "sum") (rBF1 X.K m .sum W att) := by
  refine CallR.cases fun vs H Q h => ?_
  obtain ⟨ρ, μ, p, v, rfl, hm, r, o⟩ := h
  obtain ⟨i, e, q⟩ := out_okI hm o
  unfold sumQ at e
  cases hs : lsR μ p with
  | none => rw [hs] at e; cases e
  | some xs =>
    rw [hs] at e
    cases hn : asInts xs with
    | none => simp [hn] at e
    | some ns =>
      simp only [Option.bind_some, hn, Option.map_some, Option.some.injEq] at e
      subst e
      obtain ⟨a, ws, rfl, h1, h2⟩ := ls_r hm r hs
      have := ints_rep h2 hn
      subst this
      exact ⟨_, cr_sum hc, a, ns, rfl, h1, q⟩
theorem cq_all (hc : X.calm = true) (m : Bool) : CallR X (.builtin "all") (rBF1 X.K m .all W att) := by
  refine CallR.cases fun vs H Q h => ?_
  obtain ⟨ρ, μ, p, v, rfl, hm, r, o⟩ := h
  obtain ⟨i, e, q⟩ := out_okB hm o
  unfold allQ at e
  cases hs : lsR μ p with
  | none => rw [hs] at e; cases e
  | some xs =>
    rw [hs] at e
    cases hn : asBls xs with
    | none => simp [hn] at e
    | some ns =>
      simp only [Option.bind_some, hn, Option.map_some, Option.some.injEq] at e
      subst e
      obtain ⟨a, ws, rfl, h1, h2⟩ := ls_r hm r hs
      have := bls_rep h2 hn
      subst this
      exact ⟨_, cr_all hc, a, ns, rfl, h1, q⟩
theorem cq_any (hc : X.calm = true) (m : Bool) : CallR X (.builtin "any") (rBF1 X.K m .any W att) := by
  refine CallR.cases fun vs H Q h => ?_
  obtain ⟨ρ, μ, p, v, rfl, hm, r, o⟩ := h
  obtain ⟨i, e, q⟩ := out_okB hm o
  unfold anyQ at e
  cases hs : lsR μ p with
  | none => rw [hs] at e; cases e
  | some xs =>
    rw [hs] at e
    cases hn : asBls xs with
    | none => simp [hn] at e
    | some ns =>
      simp only [Option.bind_some, hn, Option.map_some, Option.some.injEq] at e
      subst e
      obtain ⟨a, ws, rfl, h1, h2⟩ := ls_r hm r hs
      have := bls_rep h2 hn
      subst this
      exact ⟨_, cr_any hc, a, ns, rfl, h1, q⟩
theorem keys_ints {K : PySem.W.Frag} {ρ : Rho} {H : Hp} : ∀ {kvs : List (PV × PV)} {ks : List (Key × V)} {ns : List Int}, RepK K ρ H kvs ks → asInts (kvs.map (·.1)) = some ns → ks.map (·.1) = ns.map Sum.inl := by
  intro kvs
  induction kvs with
  | nil => intro ks ns r e; cases r; cases e; rfl
  | cons x kvs ih =>
    intro ks ns r e
    cases r with
    | @cons p q k v _ _ hk hv rr =>
      cases p with
      | int i =>
        simp only [List.map, asInts] at e
        cases e2 : asInts (kvs.map (·.1)) with
        | none => rw [e2] at e; cases e
        | some ms =>
          rw [e2] at e
          cases e
          cases hk
          simp only [List.map, ih rr e2]
      | _ => cases e
theorem cq_sorted (hc : X.calm = true) (m : Bool) : CallR X (.builtin "sorted") (rBF1 X.K m .sorted W att) := by
  refine CallR.cases fun vs H Q h => ?_
  obtain ⟨ρ, μ, p, v, rfl, hm, r, o⟩ := h
  simp only [bf1, sortedQ] at o
  split at o
  · rename_i kvs hd
    split at o
    · rename_i ns hn
      split at o
      · rename_i h64
        obtain ⟨a, ks, rfl, h1, h2⟩ := dk_of' hm r hd
        refine ⟨_, call_sortedDI hc, a, ks, ns, rfl, h1, keys_ints h2 hn, by simpa [Nat.blt_eq] using h64, fun ys p hp hs' hn' => ?_⟩
        rw [sort_uniq hp hs']
        exact out_lst hm (RepL.ints _) o p hn'
      · exact o.elim
    · exact o.elim
  · split at o
    · rename_i ns hn
      cases hs : lsR μ p with
      | none => rw [hs] at hn; cases hn
      | some xs =>
        rw [hs] at hn
        have hn : asInts xs = some ns := hn
        obtain ⟨a, ws, rfl, h1, h2⟩ := ls_r hm r hs
        have := ints_rep h2 hn
        subst this
        refine ⟨_, cr_sortedI, a, ns, rfl, h1, fun ns' p hp hs' hn' => ?_⟩
        rw [sort_uniq hp hs']
        exact out_lst hm (RepL.ints _) o p hn'
    · exact o.elim
theorem cq_list (m : Bool) : CallR X (.type "list") (rBF1 X.K m .list W att) := by
  refine CallR.cases fun vs H Q h => ?_
  obtain ⟨ρ, μ, p, v, rfl, hm, r, o⟩ := h
  simp only [bf1, listQ] at o
  split at o
  · rename_i xs hs
    obtain ⟨a, ws, rfl, h1, h2⟩ := sq_r hm r hs
    exact ⟨_, call_list_of, a, ws, rfl, h1, out_lst hm h2 o⟩
  · exact o.elim
theorem cq_tuple (m : Bool) : CallR X (.type "tuple") (rBF1 X.K m .tuple W att) := by
  refine CallR.cases fun vs H Q h => ?_
  obtain ⟨ρ, μ, p, v, rfl, hm, r, o⟩ := h
  simp only [bf1, tupleQ] at o
  split at o
  · rename_i xs
    have r' := r
    obtain ⟨a, ws, ob, rfl, h1, hd, h2⟩ := tup_inv r'
    exact ⟨_, call_tupleF, a, ws, rfl, .inr ⟨frT h1, out_val hm r o⟩⟩
  · split at o
    · rename_i xs hs
      obtain ⟨a, ws, rfl, h1, h2⟩ := ls_r hm r hs
      exact ⟨_, call_tupleF, a, ws, rfl, .inl ⟨h1, out_tup hm h2 o⟩⟩
    · exact o.elim
theorem sq_dict {K : PySem.W.Frag} {p : PV} {v : V} {xs : List PV} (hm : MemOk K ρ H μ) (r : Rep K ρ H p v) (e : sqR μ p = some xs) : ∃ a vs, v = .ref a ∧ (SqL K H a vs ∨ ∃ o : Obj, H a = some (.frz o (.tup vs)) ∧ o.dict = none) ∧ RepL K ρ H xs vs := by
  cases p with
  | tup ys =>
    cases e
    obtain ⟨a, ws, ob, rfl, h1, hd, h2⟩ := tup_inv r
    exact ⟨a, ws, rfl, .inr ⟨ob, h1, hd⟩, h2⟩
  | _ =>
    obtain ⟨a, ws, rfl, h1, h2⟩ := ls_r hm r e
    exact ⟨a, ws, rfl, .inl h1, h2⟩
theorem cq_dict (hc : X.calm = true) (m : Bool) : CallR X (.type "dict") (rBF1 X.K m .dict W att) := by
  refine CallR.cases fun vs H Q h => ?_
  obtain ⟨ρ, μ, p, v, rfl, hm, r, o⟩ := h
  simp only [bf1, dictQ] at o
  split at o
  · rename_i kvs hd
    obtain ⟨a, ks, rfl, h1, h2⟩ := dk_of' hm r hd
    exact ⟨_, call_dictD, a, ks, rfl, h1, out_dct hm h2 o⟩
  · split at o
    · rename_i xs hs
      split at o
      · rename_i ms hp
        obtain ⟨a, ws, rfl, h1, h2⟩ := sq_dict hm r hs
        obtain ⟨ps, kvs, rfl, h3, h4⟩ := pairs_rep _ _ _ h2 hp
        exact ⟨_, call_dictQ hc, a, ps, kvs, rfl, h1, h3, out_dct hm (merge_rep _ _ _ _ h4 .nil .nil) o⟩
      · exact o.elim
    · exact o.elim
theorem cq1 (hc : X.calm = true) (m : Bool) : ∀ b : BF, CallR X b.val (rBF1 X.K m b W att)
  | .len => cq_len m
  | .abs => cq_abs m
  | .sum => cq_sum hc m
  | .sorted => cq_sorted hc m
  | .all => cq_all hc m
  | .any => cq_any hc m
  | .list => cq_list m
  | .tuple => cq_tuple m
  | .dict => cq_dict hc m
  | .int => cq_int m
  | .max => fun _ _ _ _ _ _ _ _ _ h => by obtain ⟨_, _, _, _, _, _, _, o⟩ := h; exact o.elim
  | .min => fun _ _ _ _ _ _ _ _ _ h => by obtain ⟨_, _, _, _, _, _, _, o⟩ := h; exact o.elim
  | .str => fun _ _ _ _ _ _ _ _ _ h => by obtain ⟨_, _, _, _, _, _, _, o⟩ := h; exact o.elim
theorem cq2 (hc : X.calm = true) : ∀ b : BF, CallR X b.val (rBF2 X.K b W att)
  | .max => cq_max hc
  | .min => cq_min hc
  | .len | .abs | .sum | .sorted | .all | .any | .list | .tuple | .dict | .int | .str => fun _ _ _ _ _ _ _ _ _ h => by obtain ⟨_, _, _, _, _, _, _, _, _, _, o⟩ := h; exact o.elim
end
end HP
set_option Elab.async false
set_option linter.all false
set_option maxRecDepth 100000
set_option maxHeartbeats 4000000
namespace HP
open PySem PySem.Spec PyProof.Rows L2

/-! ### the text, told shortly -/
mutual
inductive TG where
  | nm (i : Nat)
  | tup (ts : TGL)
inductive TGL where
  | nil
  | cons (t : TG) (r : TGL)
end
inductive MF where
  | append | index
mutual
inductive E where
  | var (i : Nat)
  | gl (k : Nat)
  | non
  | bl (b : Bool)
  | int (i : Int)
  | str (s : List Nat)
  | bin (m : Bool) (op : Operator) (a b : E)
  | cmp (op : CmpOp) (a b : E)
  | chn (op op' : CmpOp) (a b c : E)
  | conj (es : EL)
  | disj (es : EL)
  | not (a : E)
  | neg (a : E)
  | ife (c a b : E)
  | idx (a b : E)
  | slc (m : Bool) (a : E) (lo hi : EL)
  | tup (es : EL)
  | lst (m : Bool) (es : EL)
  | dct (m : Bool)
  | bf1 (m : Bool) (b : BF) (a : E)
  | bf2 (b : BF) (a c : E)
  | isT (a : E) (one : Bool) (ts : List Ty)
  | call (j : Nat) (es : EL)
  | callK (j : Nat) (es ks : EL) (perm : List Nat)
  | mth (f : MF) (a b : E)
  | lc (m : Bool) (vs : List Nat) (tg : TG) (it : I) (cs : EL) (elt : E)
  | lc2 (m : Bool) (vs vs1 : List Nat) (tg : TG) (it : I) (cs : EL) (tg1 : TG) (it1 : I) (cs1 : EL) (elt : E)
  | srtS (m : Bool) (vs : List Nat) (tg : TG) (it : I) (cs : EL) (elt : E)
inductive EL where
  | nil
  | cons (e : E) (r : EL)
  | star (e : E) (r : EL)
inductive I where
  | over (e : E)
  | rng1 (a : E)
  | rng2 (a b : E)
  | enu (a : E)
  | zip (a b : E)
end
def EL.len : EL → Nat
  | .nil => 0
  | .cons _ r => r.len + 1
  | .star _ r => r.len + 1
/-- what a handler's answer holds -/
inductive HI where
  | str (s : List Nat)
  | att (s : List Nat)
  | isE (c : Nat)
mutual
inductive S where
  | asg (i : Nat) (e : E)
  | asgT (t : TG) (e : E)
  | setx (a b e : E)
  | aug (i : Nat) (op : Operator) (e : E)
  | ret (e : E)
  | ife (c : E) (a b : SL)
  | for (tg : TG) (it : I) (b : SL)
  | expr (e : E)
  | raise (c : Nat) (e : E)
  | try1 (b : SL) (c : Nat) (i : Nat) (hs : List HI)
  | doc
inductive SL where
  | nil
  | cons (s : S) (r : SL)
end

/-! ### its reading -/
inductive YV where
  | one (p : PV)
  | two (p q : PV)
inductive IT where
  | its (xs : List PV)
  | live (n i : Nat)
  | rng (lo : Int) (n : Nat)
  | enu (i : Nat) (xs : List PV)
  | zip (xs ys : List PV)
def IT.next : IT → Mem → Option (Option (YV × IT))
  | .its [], _ => some none
  | .its (x :: r), _ => some (some (.one x, .its r))
  | .live n i, μ => match μ[n]? with
    | some (.lst xs) => match xs[i]? with
      | some x => some (some (.one x, .live n (i + 1)))
      | none => some none
    | _ => none
  | .rng _ 0, _ => some none
  | .rng lo (n + 1), _ => some (some (.one (.int lo), .rng (lo + 1) n))
  | .enu _ [], _ => some none
  | .enu i (x :: r), _ => some (some (.two (.int (Int.ofNat i)) x, .enu (i + 1) r))
  | .zip (x :: r) (y :: s), _ => some (some (.two x y, .zip r s))
  | .zip _ _, _ => some none
mutual
def bindT : TG → PV → PSt → Option PSt
  | .nm i, p, σ => some (σ.set i (some p))
  | .tup ts, .tup xs, σ => bindTs ts xs σ
  | .tup _, _, _ => none
def bindTs : TGL → List PV → PSt → Option PSt
  | .nil, [], σ => some σ
  | .cons t r, x :: xs, σ => match bindT t x σ with
    | some σ' => bindTs r xs σ'
    | none => none
  | _, _, _ => none
end
def bindY (tg : TG) (y : YV) (σ : PSt) : Option PSt :=
  match y with
  | .one p => bindT tg p σ
  | .two p q => match tg with
    | .tup ts => bindTs ts [p, q] σ
    | _ => none
def wipeP (σ : PSt) : List Nat → PSt
  | [] => σ
  | v :: vs => (wipeP σ vs).set v none
/-- within a comprehension nothing may be raised -/
def R.calm {α : Type} : R α → R α
  | .exc _ _ _ => .bad
  | r => r
def lcGo (body : YV → Mem → R (Option PV)) : Nat → IT → List PV → Mem → R (List PV)
  | 0, _, _, _ => .bad
  | f + 1, it, acc, μ => match it.next μ with
    | none => .bad
    | some none => .ok acc.reverse μ
    | some (some (y, it')) => match body y μ with
      | .ok (some q) μ' => lcGo body f it' (q :: acc) μ'
      | .ok none μ' => lcGo body f it' acc μ'
      | _ => .bad
def lc2Go (its : YV → Mem → R (Option (IT × (YV → Mem → R (Option PV))))) : Nat → IT → List PV → Mem → R (List PV)
  | 0, _, _, _ => .bad
  | f + 1, it, acc, μ => match it.next μ with
    | none => .bad
    | some none => .ok acc.reverse μ
    | some (some (y, it')) => match its y μ with
      | .ok (some (jt, body)) μ' => match lcGo body (big - acc.length) jt acc μ' with
        | .ok acc' μ2 => lc2Go its f it' acc'.reverse μ2
        | _ => .bad
      | .ok none μ' => lc2Go its f it' acc μ'
      | _ => .bad
def rngOk (i : Int) : Bool := decide (-4611686018427387904 ≤ i) && decide (i < 4611686018427387904)
def itOver (μ : Mem) : PV → Option IT
  | .tup xs => some (.its xs)
  | .lst xs => some (.its xs)
  | .scr ns => some (.its (ns.map PV.int))
  | .str s => some (.its (s.map fun c => .str [c]))
  | .dct kvs => some (.its (kvs.map (·.1)))
  | .ref n => match μ[n]? with
    | some (.lst _) => some (.live n 0)
    | some (.lck kvs) => some (.its (kvs.map (·.1)))
    | _ => none
  | _ => none
def R.opt {α : Type} (o : Option α) (μ : Mem) : R α :=
  match o with
  | some a => .ok a μ
  | none => .bad
def lockQ (it : I) (σ : PSt) (μ : Mem) : Option (Nat × List (PV × PV)) :=
  match it with
  | .over (.var i) => match σ[i]? with
    | some (some (.ref n)) => match μ[n]? with
      | some (.dct kvs) => some (n, kvs)
      | _ => none
    | _ => none
  | _ => none
def unlock {α : Type} (n : Nat) (r : R α) : R α :=
  match r with
  | .ok a μ => match μ[n]? with
    | some (.lck kvs) => .ok a (μ.set n (.dct kvs))
    | _ => .bad
  | _ => .bad
def mthq (f : MF) (p q : PV) (μ : Mem) : R PV :=
  match f with
  | .append => match p with
    | .ref n => match μ[n]? with
      | some (.lst xs) => if Nat.blt xs.length big then .ok .non (μ.set n (.lst (xs ++ [q]))) else .bad
      | _ => .bad
    | _ => .bad
  | .index => match lsR μ p with
    | some xs => if cl q && (cls xs && Nat.ble (min (deps xs) (dep q)) 60) then
        match xs.findIdx? fun x => eqv x q with
        | some j => .ok (.int (Int.ofNat j)) μ
        | none => .bad
      else .bad
    | none => .bad
def memI (x : Int) : List Int → Bool
  | [] => false
  | y :: r => x == y || memI x r
/-- each once -/
def ddI : List Int → List Int
  | [] => []
  | x :: r => if memI x (ddI r) then ddI r else x :: ddI r
def pick (xs : List PV) : List Nat → Option (List PV)
  | [] => some []
  | i :: r => match xs[i]? with
    | some x => (pick xs r).map (x :: ·)
    | none => none
section
variable (G : List PV) (F : Nat → List PV → Mem → R PV)
mutual
def evE : E → PSt → Mem → R PV
  | .var i, σ, μ => match σ[i]? with
    | some (some p) => .ok p μ
    | _ => .bad
  | .gl k, _, μ => R.opt G[k]? μ
  | .non, _, μ => .ok .non μ
  | .bl b, _, μ => .ok (.bl b) μ
  | .int i, _, μ => .ok (.int i) μ
  | .str s, _, μ => .ok (.str s) μ
  | .bin m op a b, σ, μ => (evE a σ μ).bind fun p μ => (evE b σ μ).bind fun q μ => bin m op p q μ
  | .cmp op a b, σ, μ => (evE a σ μ).bind fun p μ => (evE b σ μ).bind fun q μ => okB (cmpq op p q μ) μ
  | .chn op op' a b c, σ, μ => (evE a σ μ).bind fun p μ => (evE b σ μ).bind fun q μ => (okB (cmpq op p q μ) μ).bind fun t μ => match t with
    | .bl true => (evE c σ μ).bind fun r μ => okB (cmpq op' q r μ) μ
    | .bl false => .ok (.bl false) μ
    | _ => .bad
  | .conj es, σ, μ => evAnd es σ μ
  | .disj es, σ, μ => evOr es σ μ
  | .not a, σ, μ => (evE a σ μ).bind fun p μ => match p with
    | .bl b => .ok (.bl (!b)) μ
    | _ => .bad
  | .neg a, σ, μ => (evE a σ μ).bind fun p μ => match p with
    | .int i => .ok (.int (-i)) μ
    | _ => .bad
  | .ife c a b, σ, μ => (evE c σ μ).bind fun p μ => match p with
    | .bl true => evE a σ μ
    | .bl false => evE b σ μ
    | _ => .bad
  | .idx a b, σ, μ => (evE a σ μ).bind fun p μ => (evE b σ μ).bind fun q μ => R.opt (idxq p q μ) μ
  | .slc m a lo hi, σ, μ => (evE a σ μ).bind fun p μ => (evPt lo σ μ).bind fun l μ => (evPt hi σ μ).bind fun h μ => slcq m p l h μ
  | .tup es, σ, μ => (evEL es σ μ).bind fun xs μ => if Nat.ble xs.length big then .ok (.tup xs) μ else .bad
  | .lst m es, σ, μ => (evEL es σ μ).bind fun xs μ => if Nat.ble xs.length big then newL m xs μ else .bad
  | .dct m, _, μ => newD m [] μ
  | .bf1 m b a, σ, μ => (evE a σ μ).bind fun p μ => bf1 m b p μ
  | .bf2 b a c, σ, μ => (evE a σ μ).bind fun p μ => (evE c σ μ).bind fun q μ => bf2 b p q μ
  | .isT a _ ts, σ, μ => (evE a σ μ).bind fun p μ => .ok (.bl (isT μ p ts)) μ
  | .call j es, σ, μ => (evEL es σ μ).bind fun xs μ => F j xs μ
  | .callK j es ks perm, σ, μ => (evEL es σ μ).bind fun xs μ => (evEL ks σ μ).bind fun ys μ => if Nat.beq xs.length es.len && Nat.beq ys.length ks.len then match pick (xs ++ ys) perm with
      | some zs => F j zs μ
      | none => .bad
    else .bad
  | .mth f a b, σ, μ => (evE a σ μ).bind fun p μ => match lsR μ p with
    | some _ => (evE b σ μ).bind fun q μ => mthq f p q μ
    | none => .bad
  | .lc m vs tg it cs elt, σ, μ =>
    let go (μ : Mem) : R (List PV) := (evI it σ μ).bind fun jt μ => lcGo (fun y μ => match bindY tg y (wipeP σ vs) with
      | none => .bad
      | some σ' => (evAll cs σ' μ).bind fun b μ => if b then (evE elt σ' μ).bind fun q μ => .ok (some q) μ else .ok none μ) big jt [] μ
    match lockQ it σ μ with
    | none => (go μ).bind fun xs μ => newL m xs μ
    | some (n, kvs) => (unlock n (go (μ.set n (.lck kvs)))).bind fun xs μ => newL m xs μ
  | .lc2 m vs vs1 tg it cs tg1 it1 cs1 elt, σ, μ => (evI it σ μ).bind fun jt μ => (lc2Go (fun y μ => match bindY tg y (wipeP σ vs) with
      | none => .bad
      | some σ' => (evAll cs σ' μ).bind fun b μ => if b then (evI it1 σ' μ).bind fun j1 μ => .ok (some (j1, fun y μ => match bindY tg1 y (wipeP σ' vs1) with
          | none => .bad
          | some σ2 => (evAll cs1 σ2 μ).bind fun b μ => if b then (evE elt σ2 μ).bind fun q μ => .ok (some q) μ else .ok none μ)) μ
        else .ok none μ) big jt [] μ).bind fun xs μ => newL m xs μ
  | .srtS m vs tg it cs elt, σ, μ => (evI it σ μ).bind fun jt μ => (lcGo (fun y μ => match bindY tg y (wipeP σ vs) with
      | none => .bad
      | some σ' => (evAll cs σ' μ).bind fun b μ => if b then (evE elt σ' μ).bind fun q μ => .ok (some q) μ else .ok none μ) big jt [] μ).bind fun xs μ => match asInts xs with
      | some ns => if Nat.blt (ddI ns.reverse).length 64 then newL m ((sortI (ddI ns.reverse)).map PV.int) μ else .bad
      | none => .bad
def evEL : EL → PSt → Mem → R (List PV)
  | .nil, _, μ => .ok [] μ
  | .cons e r, σ, μ => (evE e σ μ).bind fun p μ => (evEL r σ μ).bind fun ps μ => .ok (p :: ps) μ
  | .star e r, σ, μ => (evE e σ μ).bind fun p μ => match sqR μ p with
    | some xs => (evEL r σ μ).bind fun ps μ => .ok (xs ++ ps) μ
    | none => .bad
def evPt : EL → PSt → Mem → R (Option Int)
  | .nil, _, μ => .ok none μ
  | .cons e .nil, σ, μ => (evE e σ μ).bind fun p μ => match p with
    | .int i => .ok (some i) μ
    | _ => .bad
  | _, _, _ => .bad
def evAnd : EL → PSt → Mem → R PV
  | .cons e .nil, σ, μ => evE e σ μ
  | .cons e r, σ, μ => (evE e σ μ).bind fun p μ => match p with
    | .bl true => evAnd r σ μ
    | .bl false => .ok (.bl false) μ
    | _ => .bad
  | _, _, _ => .bad
def evOr : EL → PSt → Mem → R PV
  | .cons e .nil, σ, μ => evE e σ μ
  | .cons e r, σ, μ => (evE e σ μ).bind fun p μ => match p with
    | .bl true => .ok (.bl true) μ
    | .bl false => evOr r σ μ
    | _ => .bad
  | _, _, _ => .bad
def evAll : EL → PSt → Mem → R Bool
  | .nil, _, μ => .ok true μ
  | .cons e .nil, σ, μ => (evE e σ μ).bind fun p μ => match p with
    | .bl b => .ok b μ
    | _ => .bad
  | _, _, _ => .bad
def evI : I → PSt → Mem → R IT
  | .over e, σ, μ => (evE e σ μ).bind fun p μ => R.opt (itOver μ p) μ
  | .rng1 a, σ, μ => (evE a σ μ).bind fun p μ => match p with
    | .int j => if rngOk j then .ok (.rng 0 j.toNat) μ else .bad
    | _ => .bad
  | .rng2 a b, σ, μ => (evE a σ μ).bind fun p μ => (evE b σ μ).bind fun q μ => match p, q with
    | .int i, .int j => if rngOk i && rngOk j then .ok (.rng i (j - i).toNat) μ else .bad
    | _, _ => .bad
  | .enu a, σ, μ => (evE a σ μ).bind fun p μ => match p with
    | .lst xs => .ok (.enu 0 xs) μ
    | .tup xs => .ok (.enu 0 xs) μ
    | _ => .bad
  | .zip a b, σ, μ => (evE a σ μ).bind fun p μ => (evE b σ μ).bind fun q μ => match p, q with
    | .lst xs, .lst ys => .ok (.zip xs ys) μ
    | .tup xs, .tup ys => .ok (.zip xs ys) μ
    | _, _ => .bad
end
end
end HP
set_option Elab.async false
set_option linter.all false
set_option maxRecDepth 100000
set_option maxHeartbeats 4000000
namespace HP
open PySem PySem.Spec PyProof.Rows L2

inductive Fl where
  | nx (σ : PSt) (μ : Mem)
  | rt (p : PV) (μ : Mem)
  | exc (c : Nat) (x : PV) (μ : Mem)
  | bad
def R.fl {α : Type} (r : R α) (f : α → Mem → Fl) : Fl :=
  match r with
  | .ok a μ => f a μ
  | .exc c x μ => .exc c x μ
  | .bad => .bad
def Fl.fl (r : Fl) (f : PSt → Mem → Fl) : Fl :=
  match r with
  | .nx σ μ => f σ μ
  | r => r
def forGo (tg : TG) (body : PSt → Mem → Fl) : Nat → IT → PSt → Mem → Fl
  | 0, _, _, _ => .bad
  | f + 1, it, σ, μ => match it.next μ with
    | none => .bad
    | some none => .nx σ μ
    | some (some (y, it')) => match bindY tg y σ with
      | none => .bad
      | some σ' => (body σ' μ).fl fun σ μ => forGo tg body f it' σ μ
def hotQ (sub : Nat → Nat → Option Bool) (atts : Nat → List Nat) (c : Nat) (x : PV) : HI → Option PV
  | .str s => some (.str s)
  | .att s => if s == atts c then some x else none
  | .isE d => (sub c d).map .bl
def hotQs (sub : Nat → Nat → Option Bool) (atts : Nat → List Nat) (c : Nat) (x : PV) : List HI → Option (List PV)
  | [] => some []
  | h :: r => match hotQ sub atts c x h with
    | some p => (hotQs sub atts c x r).map (p :: ·)
    | none => none
def setQ (p q x : PV) (μ : Mem) : Option Mem :=
  match p with
  | .ref n => match μ[n]? with
    | some (.lst xs) => match q with
      | .int i => match ixN xs.length i with
        | some j => some (μ.set n (.lst (xs.set j x)))
        | none => none
      | _ => none
    | some (.dct kvs) => if isKey q && Nat.blt kvs.length big then some (μ.set n (.dct (putP q x kvs))) else none
    | _ => none
  | _ => none
section
variable (G : List PV) (sub : Nat → Nat → Option Bool) (atts : Nat → List Nat) (F : Nat → List PV → Mem → R PV)
mutual
def evS : S → PSt → Mem → Fl
  | .asg i e, σ, μ => (evE G F e σ μ).fl fun p μ => .nx (σ.set i (some p)) μ
  | .asgT t e, σ, μ => (evE G F e σ μ).fl fun p μ => match bindT t p σ with
    | some σ' => .nx σ' μ
    | none => .bad
  | .setx a b e, σ, μ => (evE G F e σ μ).fl fun x μ => (evE G F a σ μ).fl fun p μ => (evE G F b σ μ).fl fun q μ => match setQ p q x μ with
    | some μ => .nx σ μ
    | none => .bad
  | .aug i op e, σ, μ => match σ[i]? with
    | some (some p) => (evE G F e σ μ).fl fun q μ => match p, q with
      | .int _, .int _ => (bin false op p q μ).fl fun r μ => .nx (σ.set i (some r)) μ
      | _, _ => .bad
    | _ => .bad
  | .ret e, σ, μ => (evE G F e σ μ).fl fun p μ => .rt p μ
  | .ife c a b, σ, μ => (evE G F c σ μ).fl fun p μ => match p with
    | .bl true => evSL a σ μ
    | .bl false => evSL b σ μ
    | _ => .bad
  | .for tg it b, σ, μ => (evI G F it σ μ).fl fun jt μ => forGo tg (fun σ μ => evSL b σ μ) big jt σ μ
  | .expr e, σ, μ => (evE G F e σ μ).fl fun _ μ => .nx σ μ
  | .raise c e, σ, μ => (evE G F e σ μ).fl fun x μ => .exc c x μ
  | .try1 b d i hs, σ, μ => if Nat.blt i σ.length then match evSL b σ μ with
    | .exc c x μ => match sub c d with
      | some true => match hotQs sub atts c x hs with
        | some ps => if Nat.ble ps.length big then .rt (.lst ps) μ else .bad
        | none => .bad
      | some false => .exc c x μ
      | none => .bad
    | r => r
    else .bad
  | .doc, σ, μ => .nx σ μ
def evSL : SL → PSt → Mem → Fl
  | .nil, σ, μ => .nx σ μ
  | .cons s r, σ, μ => (evS s σ μ).fl fun σ μ => evSL r σ μ
end
end

/-! ### a call's end: what is told of the callee's own lists -/
mutual
def snap (f : Nat → Option PV) : PV → Option PV
  | .tup xs => (snaps f xs).map .tup
  | .lst xs => (snaps f xs).map .lst
  | .dct kvs => (snapk f kvs).map .dct
  | .ref n => f n
  | .non => some .non
  | .bl b => some (.bl b)
  | .int i => some (.int i)
  | .str s => some (.str s)
  | .scr ns => some (.scr ns)
def snaps (f : Nat → Option PV) : List PV → Option (List PV)
  | [] => some []
  | p :: r => match snap f p with
    | some p' => (snaps f r).map (p' :: ·)
    | none => none
def snapk (f : Nat → Option PV) : List (PV × PV) → Option (List (PV × PV))
  | [] => some []
  | (k, p) :: r => match snap f p with
    | some p' => (snapk f r).map ((k, p') :: ·)
    | none => none
end
def snapAt (n : Nat) (μ : Mem) : Nat → Nat → Option PV
  | 0, _ => none
  | k + 1, i => if Nat.blt i n then some (.ref i) else match μ[i]? with
    | some (.lst xs) => (snaps (snapAt n μ k) xs).map .lst
    | some (.dct kvs) => (snapk (snapAt n μ k) kvs).map .dct
    | _ => none
def snapMO (f : Nat → Option PV) : MO → Option MO
  | .lst xs => (snaps f xs).map .lst
  | .dct kvs => (snapk f kvs).map .dct
  | .lck kvs => (snapk f kvs).map .lck
def snapM (f : Nat → Option PV) : Mem → Option Mem
  | [] => some []
  | m :: r => match snapMO f m with
    | some m' => (snapM f r).map (m' :: ·)
    | none => none
def cutR (n : Nat) (r : R PV) : R PV :=
  match r with
  | .ok p μ => if Nat.beq μ.length n then .ok p μ else match snap (snapAt n μ 20) p, snapM (snapAt n μ 20) (μ.take n) with
    | some p', some μ' => .ok p' μ'
    | _, _ => .bad
  | .exc c p μ => if Nat.beq μ.length n then .exc c p μ else match snap (snapAt n μ 20) p, snapM (snapAt n μ 20) (μ.take n) with
    | some p', some μ' => .exc c p' μ'
    | _, _ => .bad
  | .bad => .bad
mutual
def noRef : PV → Bool
  | .tup xs => noRefs xs
  | .lst xs => noRefs xs
  | .dct kvs => noRefk kvs
  | .ref _ => false
  | _ => true
def noRefs : List PV → Bool
  | [] => true
  | p :: r => noRef p && noRefs r
def noRefk : List (PV × PV) → Bool
  | [] => true
  | (_, p) :: r => noRef p && noRefk r
end
structure FD where
  np : Nat
  nn : Nat
  keep : Bool
  pure : Bool
  body : SL
structure Prog where
  G : List PV
  sub : List (List Bool)
  atts : List (List Nat)
  fns : List FD
def Prog.isSub (P : Prog) (c d : Nat) : Option Bool := match P.sub[c]? with
  | some l => l[d]?
  | none => none
def Prog.att (P : Prog) (c : Nat) : List Nat := match P.atts[c]? with
  | some l => l
  | none => []
def Fl.fin (r : Fl) : R PV :=
  match r with
  | .nx _ μ => .ok .non μ
  | .rt p μ => .ok p μ
  | .exc c x μ => .exc c x μ
  | .bad => .bad
def st0 (n : Nat) (args : List PV) : PSt := args.map some ++ List.replicate (n - args.length) none
/-- the function's body, from a store on -/
def bodyR (P : Prog) (F : Nat → List PV → Mem → R PV) (fd : FD) (args : List PV) (μ : Mem) : R PV :=
  if Nat.beq args.length fd.np then
    if fd.keep then (evSL P.G P.isSub P.att F fd.body (st0 fd.nn args) μ).fin
    else cutR μ.length (evSL P.G P.isSub P.att F fd.body (st0 fd.nn args) μ).fin
  else .bad
def run (P : Prog) : Nat → Nat → List PV → Mem → R PV
  | 0, _, _, _ => .bad
  | d + 1, j, args, μ => match P.fns[j]? with
    | none => .bad
    | some fd => if fd.pure && noRefs args then
        match bodyR P (run P d) fd args [] with
        | .ok p [] => .ok p μ
        | .exc c x [] => .exc c x μ
        | _ => .bad
      else bodyR P (run P d) fd args μ
end HP
set_option Elab.async false
set_option linter.all false
set_option maxRecDepth 100000
set_option maxHeartbeats 4000000
namespace HP
open PySem PySem.Spec PyProof.Rows L2

/-! ### readings of answers -/
section
variable {α : Type}
def OutG (K : PySem.W.Frag) (ρ : Rho) (H : Hp) (r : R α) (Q : α → Mem → Rho → Hp → Prop) (W : Nat → Option Addr → Hp → Prop) (att : Nat → Str) : Prop :=
  match r with
  | .ok p μ => ∀ ρ' H', Step ρ H ρ' H' → MemOk K ρ' H' μ → Q p μ ρ' H'
  | .exc c x μ => ∀ ρ' H' d v, Step ρ H ρ' H' → MemOk K ρ' H' μ → H' d = some (.xd [(att c, v)]) → Rep K ρ' H' x v → W c (some d) H'
  | .bad => False
variable {K : PySem.W.Frag} {ρ ρ' : Rho} {H H' : Hp} {W : Nat → Option Addr → Hp → Prop} {att : Nat → Str} {μ μ' : Mem} {Q : VK}
theorem Out.step {r : R PV} (s : Step ρ H ρ' H') (o : Out K ρ H r Q W att) : Out K ρ' H' r Q W att := by
  cases r with
  | ok p μ => exact fun ρ2 H2 v t => o ρ2 H2 v (s.trans t)
  | exc c x μ => exact fun ρ2 H2 d v t => o ρ2 H2 d v (s.trans t)
  | bad => exact o
theorem OutG.step {r : R α} {Q : α → Mem → Rho → Hp → Prop} (s : Step ρ H ρ' H') (o : OutG K ρ H r Q W att) : OutG K ρ' H' r Q W att := by
  cases r with
  | ok p μ => exact fun ρ2 H2 t => o ρ2 H2 (s.trans t)
  | exc c x μ => exact fun ρ2 H2 d v t => o ρ2 H2 d v (s.trans t)
  | bad => exact o
theorem Out.imp {r : R PV} {Q' : VK} (o : Out K ρ H r Q W att) (h : ∀ v H', Q v H' → Q' v H') : Out K ρ H r Q' W att := by
  cases r with
  | ok p μ => exact fun ρ2 H2 v t m r => h _ _ (o ρ2 H2 v t m r)
  | exc c x μ => exact o
  | bad => exact o
/-- first one, then the other -/
theorem out_bind {r : R PV} {f : PV → Mem → R PV} (o : Out K ρ H (r.bind f) Q W att) :
    Out K ρ H r (fun v H' => ∃ ρ' μ' p, Step ρ H ρ' H' ∧ MemOk K ρ' H' μ' ∧ Rep K ρ' H' p v ∧ Out K ρ' H' (f p μ') Q W att) W att := by
  cases r with
  | ok p μ => exact fun ρ2 H2 v t m r => ⟨ρ2, μ, p, t, m, r, Out.step t o⟩
  | exc c x μ => exact o
  | bad => exact o
theorem outG_bind {r : R PV} {f : PV → Mem → R α} {Q : α → Mem → Rho → Hp → Prop} (o : OutG K ρ H (r.bind f) Q W att) :
    Out K ρ H r (fun v H' => ∃ ρ' μ' p, Step ρ H ρ' H' ∧ MemOk K ρ' H' μ' ∧ Rep K ρ' H' p v ∧ OutG K ρ' H' (f p μ') Q W att) W att := by
  cases r with
  | ok p μ => exact fun ρ2 H2 v t m r => ⟨ρ2, μ, p, t, m, r, OutG.step t o⟩
  | exc c x μ => exact o
  | bad => exact o
theorem out_bindG {r : R α} {f : α → Mem → R PV} (o : Out K ρ H (r.bind f) Q W att) :
    OutG K ρ H r (fun a μ' ρ' H' => Step ρ H ρ' H' ∧ MemOk K ρ' H' μ' ∧ Out K ρ' H' (f a μ') Q W att) W att := by
  cases r with
  | ok p μ => exact fun ρ2 H2 t m => ⟨t, m, Out.step t o⟩
  | exc c x μ => exact o
  | bad => exact o
theorem outG_bindG {β : Type} {r : R α} {f : α → Mem → R β} {Q : β → Mem → Rho → Hp → Prop} (o : OutG K ρ H (r.bind f) Q W att) :
    OutG K ρ H r (fun a μ' ρ' H' => Step ρ H ρ' H' ∧ MemOk K ρ' H' μ' ∧ OutG K ρ' H' (f a μ') Q W att) W att := by
  cases r with
  | ok p μ => exact fun ρ2 H2 t m => ⟨t, m, OutG.step t o⟩
  | exc c x μ => exact o
  | bad => exact o
theorem OutG.imp {r : R α} {Q Q' : α → Mem → Rho → Hp → Prop} (o : OutG K ρ H r Q W att) (h : ∀ a μ' ρ' H', Q a μ' ρ' H' → Q' a μ' ρ' H') : OutG K ρ H r Q' W att := by
  cases r with
  | ok p μ => exact fun ρ2 H2 t m => h _ _ _ _ (o ρ2 H2 t m)
  | exc c x μ => exact o
  | bad => exact o
end

/-! ### other lots of addresses -/
section
variable {K : PySem.W.Frag} {ρ ρ' : Rho} {H : Hp}
mutual
theorem Rep.reall (h1 : ∀ a, a ∉ ρ.all → a ∉ ρ'.all) (h2 : ∀ (n : Nat) (a : Addr), ρ.st[n]? = some a → ρ'.st[n]? = some a) : ∀ {p : PV} {v : V}, Rep K ρ H p v → Rep K ρ' H p v
  | _, _, .non => .non
  | _, _, .bl b => .bl b
  | _, _, .int i => .int i
  | _, _, .str x => .str x
  | _, _, .tup n e d r => .tup (h1 _ n) e d (RepL.reall h1 h2 r)
  | _, _, .lst n e r => .lst (h1 _ n) e (RepL.reall h1 h2 r)
  | _, _, .dct n e r => .dct (h1 _ n) e (RepK.reall h1 h2 r)
  | _, _, .scr n e => .scr (h1 _ n) e
  | _, _, .scrK h => .scrK h
  | _, _, .ref e => .ref (h2 _ _ e)
theorem RepL.reall (h1 : ∀ a, a ∉ ρ.all → a ∉ ρ'.all) (h2 : ∀ (n : Nat) (a : Addr), ρ.st[n]? = some a → ρ'.st[n]? = some a) : ∀ {p : List PV} {v : List V}, RepL K ρ H p v → RepL K ρ' H p v
  | _, _, .nil => .nil
  | _, _, .cons h r => .cons (Rep.reall h1 h2 h) (RepL.reall h1 h2 r)
theorem RepK.reall (h1 : ∀ a, a ∉ ρ.all → a ∉ ρ'.all) (h2 : ∀ (n : Nat) (a : Addr), ρ.st[n]? = some a → ρ'.st[n]? = some a) : ∀ {p : List (PV × PV)} {v : List (Key × V)}, RepK K ρ H p v → RepK K ρ' H p v
  | _, _, .nil => .nil
  | _, _, .cons e h r => .cons e (Rep.reall h1 h2 h) (RepK.reall h1 h2 r)
end
theorem upd_hid {D a : Addr} {o : HO} (hD : D ∈ ρ.hid) (n : a ∉ ρ.all) : upd H D o a = H a := upd_ne fun z => (Rho.not_all.mp n).2 (by rw [z]; exact hD)
mutual
/-- what stands at a hidden address is nothing to the values -/
theorem Rep.poke {D : Addr} {o : HO} (hD : D ∈ ρ.hid) (hs : D ∉ ρ.st) : ∀ {p : PV} {v : V}, Rep K ρ H p v → Rep K ρ (upd H D o) p v
  | _, _, .non => .non
  | _, _, .bl b => .bl b
  | _, _, .int i => .int i
  | _, _, .str x => .str x
  | _, _, .tup n e d r => .tup n ((upd_hid hD n).trans e) d (RepL.poke hD hs r)
  | _, _, .lst n e r => .lst n ((upd_hid hD n).trans e) (RepL.poke hD hs r)
  | _, _, .dct n e r => .dct n (e.elim (fun e => .inl ((upd_hid hD n).trans e)) fun ⟨o, e⟩ => .inr ⟨o, (upd_hid hD n).trans e⟩) (RepK.poke hD hs r)
  | _, _, .scr n e => .scr n (e.elim (fun e => .inl ((upd_hid hD n).trans e)) fun ⟨o, e⟩ => .inr ⟨o, (upd_hid hD n).trans e⟩)
  | _, _, .scrK h => .scrK h
  | _, _, .ref e => .ref e
theorem RepL.poke {D : Addr} {o : HO} (hD : D ∈ ρ.hid) (hs : D ∉ ρ.st) : ∀ {p : List PV} {v : List V}, RepL K ρ H p v → RepL K ρ (upd H D o) p v
  | _, _, .nil => .nil
  | _, _, .cons h r => .cons (Rep.poke hD hs h) (RepL.poke hD hs r)
theorem RepK.poke {D : Addr} {o : HO} (hD : D ∈ ρ.hid) (hs : D ∉ ρ.st) : ∀ {p : List (PV × PV)} {v : List (Key × V)}, RepK K ρ H p v → RepK K ρ (upd H D o) p v
  | _, _, .nil => .nil
  | _, _, .cons e h r => .cons e (Rep.poke hD hs h) (RepK.poke hD hs r)
end
theorem MemOk.poke {D : Addr} {o : HO} {μ : Mem} (hD : D ∈ ρ.hid) (m : MemOk K ρ H μ) : MemOk K ρ (upd H D o) μ := by
  have hs := (m.hid D hD).1
  refine ⟨m.nd, m.len, fun i a e => ?_, fun a ha => ⟨(m.hid a ha).1, ?_⟩⟩
  · obtain ⟨mo, e1, r⟩ := m.all i a e
    have ne : upd H D o a = H a := upd_ne fun z => hs (by rw [← z]; exact List.mem_of_getElem? e)
    refine ⟨mo, e1, ?_⟩
    cases r with
    | lst x r => exact .lst (ne.trans x) (r.poke hD hs)
    | dct x r => exact .dct (ne.trans x) (r.poke hD hs)
    | lck x r => exact .lck (ne.trans x) (r.poke hD hs)
  · obtain ⟨_, u, e⟩ := m.hid a ha
    by_cases z : a = D
    · rw [z]; exact ⟨_, upd_same⟩
    · exact ⟨u, by rw [upd_ne z]; exact e⟩
/-- other lots, the store's order kept -/
theorem MemOk.reall {μ : Mem} (m : MemOk K ρ H μ) (h1 : ∀ a, a ∉ ρ.all → a ∉ ρ'.all) (hst : ρ'.st = ρ.st) (hh : ∀ a ∈ ρ'.hid, a ∉ ρ.st ∧ ∃ o, H a = some o) : MemOk K ρ' H μ := by
  refine ⟨by rw [hst]; exact m.nd, by rw [hst]; exact m.len, fun i a e => ?_, fun a ha => by rw [hst]; exact hh a ha⟩
  rw [hst] at e
  obtain ⟨mo, e1, r⟩ := m.all i a e
  have h2 : ∀ (n : Nat) (a : Addr), ρ.st[n]? = some a → ρ'.st[n]? = some a := fun n a e => by rw [hst]; exact e
  refine ⟨mo, e1, ?_⟩
  cases r with
  | lst x r => exact .lst x (r.reall h1 h2)
  | dct x r => exact .dct x (r.reall h1 h2)
  | lck x r => exact .lck x (r.reall h1 h2)
end

/-! ### what is walked -/
def RepY (K : PySem.W.Frag) (ρ : Rho) (H : Hp) (y : YV) (x : V) : Prop :=
  match y with
  | .one p => Rep K ρ H p x
  | .two p q => ∃ T v w, x = .ref T ∧ SqT K H T [v, w] ∧ Rep K ρ H p v ∧ Rep K ρ H q w
/-- the tuple at a, each item in a new pair -/
def IteT (K : PySem.W.Frag) (a : Addr) : It :=
  ⟨fun i H => ∃ (xs : List V) (x : V), SqT K H a xs ∧ xs[i]? = some x, fun i H v H' => ∃ T x, v = .ref T ∧ H T = none ∧ H' = upd H T (.tup [.int (i : Nat), x]) ∧ ∀ xs, SqT K H a xs → xs[i]? = some x, fun i H => ∃ xs : List V, SqT K H a xs ∧ xs.length = i⟩
inductive ItR (K : PySem.W.Frag) (ρ : Rho) (H : Hp) : IT → It → Nat → Prop
  | lst {a : Addr} {xs l : List PV} {i : Nat} : Rep K ρ H (.lst xs) (.ref a) → l = xs.drop i → ItR K ρ H (.its l) (Itl K a) i
  | scr {a : Addr} {ns : List Int} {l : List PV} {i : Nat} : Rep K ρ H (.scr ns) (.ref a) → l = (ns.map PV.int).drop i → ItR K ρ H (.its l) (Itl K a) i
  | tup {a : Addr} {xs l : List PV} {i : Nat} : Rep K ρ H (.tup xs) (.ref a) → l = xs.drop i → ItR K ρ H (.its l) (Itt K a) i
  | str {s : List Nat} {l : List PV} {i : Nat} : l = (s.map fun c => PV.str [c]).drop i → ItR K ρ H (.its l) (Its ⟨s.toArray⟩) i
  | keys {d : Addr} {o : Obj} {ks : List (Key × V)} {kvs : List (PV × PV)} {l : List PV} {i : Nat} : H d = some (.frz o (.dK ks)) → RepK K ρ H kvs ks → l = (kvs.map (·.1)).drop i → ItR K ρ H (.its l) (Itk d o ks) i
  | live {a : Addr} {n i : Nat} : ρ.st[n]? = some a → ItR K ρ H (.live n i) (Itl K a) i
  | rng {lo lo' : Int} {n n' : Nat} {i : Nat} : lo' = lo + i → n' = n - i → ItR K ρ H (.rng lo' n') (Itr lo n) i
  | enu {a : Addr} {xs l : List PV} {i : Nat} : Rep K ρ H (.lst xs) (.ref a) → l = xs.drop i → ItR K ρ H (.enu i l) (Ite K a) i
  | enuT {a : Addr} {xs l : List PV} {i : Nat} : Rep K ρ H (.tup xs) (.ref a) → l = xs.drop i → i ≤ xs.length → ItR K ρ H (.enu i l) (IteT K a) i
  | zip {a b : Addr} {xs ys l m : List PV} {i : Nat} : Rep K ρ H (.lst xs) (.ref a) → Rep K ρ H (.lst ys) (.ref b) → l = xs.drop i → m = ys.drop i → ItR K ρ H (.zip l m) (Itz K a b) i
  | zipT {a b : Addr} {xs ys l m : List PV} {i : Nat} : Rep K ρ H (.tup xs) (.ref a) → Rep K ρ H (.tup ys) (.ref b) → l = xs.drop i → m = ys.drop i → ItR K ρ H (.zip l m) (RZ.ItzT K a b) i
section
variable {K : PySem.W.Frag} {ρ ρ' : Rho} {H H' : Hp} {μ : Mem} {jt jt' : IT} {J : It} {i : Nat} {y : YV}
theorem ItR.step (s : Step ρ H ρ' H') (r : ItR K ρ H jt J i) : ItR K ρ' H' jt J i := by
  cases r with
  | lst r e => exact .lst (r.step s) e
  | scr r e => exact .scr (r.step s) e
  | tup r e => exact .tup (r.step s) e
  | str e => exact .str e
  | keys h r e => exact .keys (s.frz _ _ _ h) (r.step s) e
  | live e => exact .live (s.get e)
  | rng e1 e2 => exact .rng e1 e2
  | enu r e => exact .enu (r.step s) e
  | enuT r e hi => exact .enuT (r.step s) e hi
  | zip r r2 e e2 => exact .zip (r.step s) (r2.step s) e e2
  | zipT r r2 e e2 => exact .zipT (r.step s) (r2.step s) e e2
theorem drop_cons {α : Type} {xs : List α} {i : Nat} {x : α} {r : List α} (h : x :: r = xs.drop i) : xs[i]? = some x ∧ r = xs.drop (i + 1) := by
  have h1 : (xs.drop i)[0]? = some x := by rw [← h]; rfl
  rw [List.getElem?_drop] at h1
  refine ⟨by simpa using h1, ?_⟩
  have h2 : (x :: r).drop 1 = (xs.drop i).drop 1 := by rw [h]
  rw [List.drop_drop] at h2
  simpa using h2
theorem drop_nil {α : Type} {xs : List α} {i : Nat} (h : [] = xs.drop i) : xs.length ≤ i := List.drop_eq_nil_iff.mp h.symm
theorem lst_inv {xs : List PV} {a : Addr} (r : Rep K ρ H (.lst xs) (.ref a)) : ∃ vs, a ∉ ρ.all ∧ H a = some (.lst vs) ∧ RepL K ρ H xs vs := by
  cases r with
  | lst n e r => exact ⟨_, n, e, r⟩
theorem tup_inv' {xs : List PV} {a : Addr} (r : Rep K ρ H (.tup xs) (.ref a)) : ∃ vs o, a ∉ ρ.all ∧ H a = some (.frz o (.tup vs)) ∧ RepL K ρ H xs vs := by
  cases r with
  | tup n e d r => exact ⟨_, _, n, e, r⟩
theorem scr_inv {ns : List Int} {a : Addr} (r : Rep K ρ H (.scr ns) (.ref a)) : SqL K H a (ns.map V.int) := by
  cases r with
  | scr n e => exact .inl e
  | scrK h => exact .inr h
theorem RepK.key : ∀ {kvs : List (PV × PV)} {ks : List (Key × V)} {i : Nat} {k : Key} {v : V} {p : PV}, RepK K ρ H kvs ks → ks[i]? = some (k, v) → (kvs.map (·.1))[i]? = some p → Rep K ρ H p (kV k) := by
  intro kvs
  induction kvs with
  | nil => intro ks i k v p r e e2; cases r; simp at e
  | cons kv kvs ih =>
    intro ks i k v p r e e2
    cases r with
    | @cons p' q' k' v' _ _ ek h t =>
      cases i with
      | zero =>
        simp at e e2
        obtain ⟨rfl, rfl⟩ := e
        subst e2
        cases p' <;> cases ek
        · exact .int _
        · exact .str _
      | succ i => exact ih t (by simpa using e) (by simpa using e2)
theorem RepK.length : ∀ {kvs : List (PV × PV)} {ks : List (Key × V)}, RepK K ρ H kvs ks → kvs.length = ks.length := by
  intro kvs
  induction kvs with
  | nil => intro ks r; cases r; rfl
  | cons k kvs ih => intro ks r; cases r with | cons _ _ t => simp [ih t]
/-- what the iterator tells next -/
theorem ItR.stop (m : MemOk K ρ H μ) (r : ItR K ρ H jt J i) (e : jt.next μ = some none) : J.stop i H := by
  cases r with
  | @lst a xs l _ r el =>
    cases l with
    | cons x l => simp [IT.next] at e
    | nil =>
      obtain ⟨vs, n, h, rl⟩ := lst_inv r
      exact ⟨vs, .inl (.inl h), by rw [← rl.length]; exact drop_nil el⟩
  | @scr a ns l _ r el =>
    cases l with
    | cons x l => simp [IT.next] at e
    | nil =>
      have := drop_nil el
      exact ⟨_, scr_inv r, by simpa using this⟩
  | @tup a xs l _ r el =>
    cases l with
    | cons x l => simp [IT.next] at e
    | nil =>
      obtain ⟨vs, o, n, h, rl⟩ := tup_inv' r
      exact ⟨vs, .inl (.inr ⟨o, h⟩), by rw [← rl.length]; exact drop_nil el⟩
  | @str s l _ el =>
    cases l with
    | cons x l => simp [IT.next] at e
    | nil =>
      have := drop_nil el
      show (Array.size _) ≤ i
      simpa using this
  | @keys d o ks kvs l _ h r el =>
    cases l with
    | cons x l => simp [IT.next] at e
    | nil =>
      have := drop_nil el
      exact ⟨h, by rw [← r.length]; simpa using this⟩
  | @live a n _ er =>
    obtain ⟨mo, e1, mr⟩ := m.all _ _ er
    simp only [IT.next, e1] at e
    cases mr with
    | @lst _ xs vs h rl =>
      simp only at e
      cases hx : xs[i]? with
      | some x => simp [hx] at e
      | none => exact ⟨vs, .inl (.inl h), by rw [← rl.length]; exact List.getElem?_eq_none_iff.mp hx⟩
    | dct _ _ => simp at e
    | lck _ _ => simp at e
  | @rng lo lo' n n' _ e1 e2 =>
    cases n' with
    | succ n' => simp [IT.next] at e
    | zero => show n ≤ i; omega
  | @enu a xs l _ r el =>
    cases l with
    | cons x l => simp [IT.next] at e
    | nil =>
      obtain ⟨vs, n, h, rl⟩ := lst_inv r
      exact ⟨vs, .inl (.inl h), by rw [← rl.length]; exact drop_nil el⟩
  | @enuT a xs l _ r el hi =>
    cases l with
    | cons x l => simp [IT.next] at e
    | nil =>
      obtain ⟨vs, o, n, h, rl⟩ := tup_inv' r
      exact ⟨vs, .inl (.inr ⟨o, h⟩), by rw [← rl.length]; exact Nat.le_antisymm (drop_nil el) hi⟩
  | @zip a b xs ys l l2 _ r r2 el el2 =>
    obtain ⟨vs, n, h, rl⟩ := lst_inv r
    obtain ⟨ws, n2, h2, rl2⟩ := lst_inv r2
    refine ⟨vs, ws, .inl (.inl h), .inl (.inl h2), ?_⟩
    cases l with
    | nil => exact .inl (by rw [← rl.length]; exact drop_nil el)
    | cons x l =>
      cases l2 with
      | nil => exact .inr (by rw [← rl2.length]; exact drop_nil el2)
      | cons y l2 => simp [IT.next] at e
  | @zipT a b xs ys l l2 _ r r2 el el2 =>
    obtain ⟨vs, o, n, h, rl⟩ := tup_inv' r
    obtain ⟨ws, o2, n2, h2, rl2⟩ := tup_inv' r2
    refine ⟨vs, ws, .inl (.inr ⟨o, h⟩), .inl (.inr ⟨o2, h2⟩), ?_⟩
    cases l with
    | nil => exact .inl (by rw [← rl.length]; exact drop_nil el)
    | cons x l =>
      cases l2 with
      | nil => exact .inr (by rw [← rl2.length]; exact drop_nil el2)
      | cons y l2 => simp [IT.next] at e
/-- .. its item, and behind it -/
def NextOk (K : PySem.W.Frag) (ρ : Rho) (H : Hp) (μ : Mem) (jt' : IT) (J : It) (i : Nat) (y : YV) : Prop :=
  J.go i H ∧ ∀ x H', J.yld i H x H' → Step ρ H ρ H' ∧ MemOk K ρ H' μ ∧ RepY K ρ H' y x ∧ ItR K ρ H' jt' J (i + 1)
theorem next_same {a : Addr} {vs : List V} {x : PV} {v : V} (m : MemOk K ρ H μ) (hv : vs[i]? = some v) (rx : Rep K ρ H x v) (h : SqL K H a vs) (r : ItR K ρ H jt' (Itl K a) (i + 1)) : NextOk K ρ H μ jt' (Itl K a) i (.one x) := by
  refine ⟨⟨vs, v, h, hv⟩, fun u H' ⟨e, q⟩ => ?_⟩
  subst e
  have := q _ h
  rw [hv] at this; cases this
  exact ⟨.refl, m, rx, r⟩
theorem next_sameT {a : Addr} {vs : List V} {x : PV} {v : V} (m : MemOk K ρ H μ) (hv : vs[i]? = some v) (rx : Rep K ρ H x v) (h : SqT K H a vs) (r : ItR K ρ H jt' (Itt K a) (i + 1)) : NextOk K ρ H μ jt' (Itt K a) i (.one x) := by
  refine ⟨⟨vs, v, h, hv⟩, fun u H' ⟨e, q⟩ => ?_⟩
  subst e
  have := q _ h
  rw [hv] at this; cases this
  exact ⟨.refl, m, rx, r⟩
theorem ItR.next (m : MemOk K ρ H μ) (r : ItR K ρ H jt J i) (e : jt.next μ = some (some (y, jt'))) : NextOk K ρ H μ jt' J i y := by
  cases r with
  | @lst a xs l _ r el =>
    cases l with
    | nil => simp [IT.next] at e
    | cons x l =>
      simp only [IT.next, Option.some.injEq, Prod.mk.injEq] at e
      obtain ⟨rfl, rfl⟩ := e
      obtain ⟨vs, n, h, rl⟩ := lst_inv r
      obtain ⟨h1, h2⟩ := drop_cons el
      obtain ⟨v, hv, rx⟩ := rl.get h1
      exact next_same m hv rx (.inl (.inl h)) (.lst r h2)
  | @scr a ns l _ r el =>
    cases l with
    | nil => simp [IT.next] at e
    | cons x l =>
      simp only [IT.next, Option.some.injEq, Prod.mk.injEq] at e
      obtain ⟨rfl, rfl⟩ := e
      obtain ⟨h1, h2⟩ := drop_cons el
      obtain ⟨v, hv, rx⟩ := (RepL.ints (K := K) (ρ := ρ) (H := H) ns).get h1
      exact next_same m hv rx (scr_inv r) (.scr r h2)
  | @tup a xs l _ r el =>
    cases l with
    | nil => simp [IT.next] at e
    | cons x l =>
      simp only [IT.next, Option.some.injEq, Prod.mk.injEq] at e
      obtain ⟨rfl, rfl⟩ := e
      obtain ⟨vs, o, n, h, rl⟩ := tup_inv' r
      obtain ⟨h1, h2⟩ := drop_cons el
      obtain ⟨v, hv, rx⟩ := rl.get h1
      exact next_sameT m hv rx (.inl (.inr ⟨o, h⟩)) (.tup r h2)
  | @str s l _ el =>
    cases l with
    | nil => simp [IT.next] at e
    | cons x l =>
      simp only [IT.next, Option.some.injEq, Prod.mk.injEq] at e
      obtain ⟨rfl, rfl⟩ := e
      obtain ⟨h1, h2⟩ := drop_cons el
      rw [List.getElem?_map] at h1
      cases hc : s[i]? with
      | none => rw [hc] at h1; cases h1
      | some c =>
        rw [hc] at h1
        cases h1
        have hi := (List.getElem?_eq_some_iff.mp hc).1
        refine ⟨show i < Array.size _ by simpa using hi, fun u H' ⟨e, c', q1, q2⟩ => ?_⟩
        subst e
        have q1 : s.toArray[i]? = some c' := q1
        rw [List.getElem?_toArray, hc] at q1
        cases q1
        exact ⟨.refl, m, by rw [q2]; exact Rep.str [c], .str h2⟩
  | @keys d o ks kvs l _ h r el =>
    cases l with
    | nil => simp [IT.next] at e
    | cons x l =>
      simp only [IT.next, Option.some.injEq, Prod.mk.injEq] at e
      obtain ⟨rfl, rfl⟩ := e
      obtain ⟨h1, h2⟩ := drop_cons el
      have hi := (List.getElem?_eq_some_iff.mp h1).1
      refine ⟨⟨h, by rw [← r.length]; simpa using hi⟩, fun u H' ⟨e, k, v, q1, q2⟩ => ?_⟩
      subst e q2
      exact ⟨.refl, m, r.key q1 h1, .keys h r h2⟩
  | @live a n _ er =>
    obtain ⟨mo, e1, mr⟩ := m.all _ _ er
    simp only [IT.next, e1] at e
    cases mr with
    | @lst _ xs vs h rl =>
      simp only at e
      cases hx : xs[i]? with
      | none => simp [hx] at e
      | some x =>
        simp only [hx, Option.some.injEq, Prod.mk.injEq] at e
        obtain ⟨rfl, rfl⟩ := e
        obtain ⟨v, hv, rx⟩ := rl.get hx
        exact next_same m hv rx (.inl (.inl h)) (.live er)
    | dct _ _ => simp at e
    | lck _ _ => simp at e
  | @rng lo lo' n n' _ e1 e2 =>
    cases n' with
    | zero => simp [IT.next] at e
    | succ n' =>
      simp only [IT.next, Option.some.injEq, Prod.mk.injEq] at e
      obtain ⟨rfl, rfl⟩ := e
      refine ⟨show i < n by omega, fun u H' ⟨e, q⟩ => ?_⟩
      subst e q
      refine ⟨.refl, m, by rw [← e1]; exact Rep.int _, .rng ?_ ?_⟩
      · rw [e1]; omega
      · omega
  | @enu a xs l _ r el =>
    cases l with
    | nil => simp [IT.next] at e
    | cons x l =>
      simp only [IT.next, Option.some.injEq, Prod.mk.injEq] at e
      obtain ⟨rfl, rfl⟩ := e
      obtain ⟨vs, n, h, rl⟩ := lst_inv r
      obtain ⟨h1, h2⟩ := drop_cons el
      obtain ⟨v, hv, rx⟩ := rl.get h1
      refine ⟨⟨vs, v, .inl (.inl h), hv⟩, fun u H' ⟨T, w, e1, hT, e2, q⟩ => ?_⟩
      subst e1 e2
      have := q _ (.inl (.inl h))
      rw [hv] at this; cases this
      exact ⟨step_new hT, m.new hT, ⟨T, _, _, rfl, .inl (.inl upd_same), .int _, rx.step (step_new hT)⟩, .enu (r.step (step_new hT)) h2⟩
  | @enuT a xs l _ r el hi =>
    cases l with
    | nil => simp [IT.next] at e
    | cons x l =>
      simp only [IT.next, Option.some.injEq, Prod.mk.injEq] at e
      obtain ⟨rfl, rfl⟩ := e
      obtain ⟨vs, o, n, h, rl⟩ := tup_inv' r
      obtain ⟨h1, h2⟩ := drop_cons el
      obtain ⟨v, hv, rx⟩ := rl.get h1
      refine ⟨⟨vs, v, .inl (.inr ⟨o, h⟩), hv⟩, fun u H' ⟨T, w, e1, hT, e2, q⟩ => ?_⟩
      subst e1 e2
      have := q _ (.inl (.inr ⟨o, h⟩))
      rw [hv] at this; cases this
      exact ⟨step_new hT, m.new hT, ⟨T, _, _, rfl, .inl (.inl upd_same), .int _, rx.step (step_new hT)⟩, .enuT (r.step (step_new hT)) h2 (List.getElem?_eq_some_iff.mp h1).1⟩
  | @zip a b xs ys l l2 _ r r2 el el2 =>
    cases l with
    | nil => cases l2 <;> simp [IT.next] at e
    | cons x l =>
      cases l2 with
      | nil => simp [IT.next] at e
      | cons y' l2 =>
        simp only [IT.next, Option.some.injEq, Prod.mk.injEq] at e
        obtain ⟨rfl, rfl⟩ := e
        obtain ⟨vs, n, h, rl⟩ := lst_inv r
        obtain ⟨ws, n2, h', rl2⟩ := lst_inv r2
        obtain ⟨h1, h2⟩ := drop_cons el
        obtain ⟨h3, h4⟩ := drop_cons el2
        obtain ⟨v, hv, rx⟩ := rl.get h1
        obtain ⟨w, hw, ry⟩ := rl2.get h3
        refine ⟨⟨vs, ws, v, w, .inl (.inl h), .inl (.inl h'), hv, hw⟩, fun u H' ⟨T, v', w', e1, hT, e2, q, q'⟩ => ?_⟩
        subst e1 e2
        have := q _ (.inl (.inl h))
        rw [hv] at this; cases this
        have := q' _ (.inl (.inl h'))
        rw [hw] at this; cases this
        exact ⟨step_new hT, m.new hT, ⟨T, _, _, rfl, .inl (.inl upd_same), rx.step (step_new hT), ry.step (step_new hT)⟩, .zip (r.step (step_new hT)) (r2.step (step_new hT)) h2 h4⟩
  | @zipT a b xs ys l l2 _ r r2 el el2 =>
    cases l with
    | nil => cases l2 <;> simp [IT.next] at e
    | cons x l =>
      cases l2 with
      | nil => simp [IT.next] at e
      | cons y' l2 =>
        simp only [IT.next, Option.some.injEq, Prod.mk.injEq] at e
        obtain ⟨rfl, rfl⟩ := e
        obtain ⟨vs, o, n, h, rl⟩ := tup_inv' r
        obtain ⟨ws, o2, n2, h', rl2⟩ := tup_inv' r2
        obtain ⟨h1, h2⟩ := drop_cons el
        obtain ⟨h3, h4⟩ := drop_cons el2
        obtain ⟨v, hv, rx⟩ := rl.get h1
        obtain ⟨w, hw, ry⟩ := rl2.get h3
        refine ⟨⟨vs, ws, v, w, .inl (.inr ⟨o, h⟩), .inl (.inr ⟨o2, h'⟩), hv, hw⟩, fun u H' ⟨T, v', w', e1, hT, e2, q, q'⟩ => ?_⟩
        subst e1 e2
        have := q _ (.inl (.inr ⟨o, h⟩))
        rw [hv] at this; cases this
        have := q' _ (.inl (.inr ⟨o2, h'⟩))
        rw [hw] at this; cases this
        exact ⟨step_new hT, m.new hT, ⟨T, _, _, rfl, .inl (.inl upd_same), rx.step (step_new hT), ry.step (step_new hT)⟩, .zipT (r.step (step_new hT)) (r2.step (step_new hT)) h2 h4⟩
end
end HP
set_option Elab.async false
set_option linter.all false
set_option maxRecDepth 100000
set_option maxHeartbeats 4000000
namespace HP
open PySem PySem.Spec PyProof.Rows L2

/-! ### the rules, for an expression's short form -/
structure Tab where
  fns : List Str
  gn : List Str
  G : List PV
  ca : Nat → Addr
  att : Nat → Str
abbrev WS (W : WX) (T : Tab) (σ : L2.St) : Nat → Option Addr → Hp → Prop := fun c dd H => W (.ref (T.ca c)) dd σ H
section
variable (K : PySem.W.Frag) (T : Tab) (F : Nat → List PV → Mem → R PV) (W : WX)
def rdE (e : E) : TE := fun σ H Q => ∃ ρ μ ps, MemOk K ρ H μ ∧ StR K ρ H ps σ ∧ Out K ρ H (evE T.G F e ps μ) Q (WS W T σ) T.att
def rdA (es : EL) : TA := fun σ H Q => ∃ ρ μ ps, MemOk K ρ H μ ∧ StR K ρ H ps σ ∧ OutG K ρ H (evEL T.G F es ps μ) (fun xs μ' ρ' H' => ∀ vs, RepL K ρ' H' xs vs → Q vs H') (WS W T σ) T.att
def rdC (cs : EL) : TT := fun σ H Q => ∃ ρ μ ps, MemOk K ρ H μ ∧ StR K ρ H ps σ ∧ OutG K ρ H (evAll T.G F cs ps μ) (fun b μ' ρ' H' => Q b H') (WS W T σ) T.att
def rdP (es : EL) : TO := fun σ H Q => ∃ ρ μ ps, MemOk K ρ H μ ∧ StR K ρ H ps σ ∧ OutG K ρ H (evPt T.G F es ps μ) (fun o μ' ρ' H' => Q o H') (WS W T σ) T.att
def rdI (it : I) : TI := fun σ H Q => ∃ ρ μ ps, MemOk K ρ H μ ∧ StR K ρ H ps σ ∧ OutG K ρ H (evI T.G F it ps μ) (fun jt μ' ρ' H' => ∀ ρ'' H'' J, Step ρ' H' ρ'' H'' → MemOk K ρ'' H'' μ' → ItR K ρ'' H'' jt J 0 → Q J H'') (WS W T σ) T.att
end
theorem PE.imp {X : Cx} {e : Expr} {t t' : TE} (h : PE X e t) (i : ∀ σ H Q, t' σ H Q → t σ H Q) : PE X e t' := ⟨fun pins s σ H Q I hw => h.run pins s σ H Q I (i _ _ _ hw)⟩
theorem PT.imp {X : Cx} {e : Expr} {t t' : TT} (h : PT X e t) (i : ∀ σ H Q, t' σ H Q → t σ H Q) : PT X e t' := ⟨fun pins s σ H Q I hw => h.run pins s σ H Q I (i _ _ _ hw)⟩
theorem PW.imp {X : Cx} {e : Expr} {t t' : TT} (h : PW X e t) (i : ∀ σ H Q, t' σ H Q → t σ H Q) : PW X e t' := ⟨fun wh pins s σ H Q I hw => h.run wh pins s σ H Q I (i _ _ _ hw)⟩
theorem PA.imp {X : Cx} {e : List Expr} {t t' : TA} (h : PA X e t) (i : ∀ σ H Q, t' σ H Q → t σ H Q) : PA X e t' := ⟨fun pos pins s σ H Q I hw => h.run pos pins s σ H Q I (i _ _ _ hw)⟩
theorem PTs.imp {X : Cx} {e : List Expr} {t t' : TT} (h : PTs X e t) (i : ∀ σ H Q, t' σ H Q → t σ H Q) : PTs X e t' := ⟨fun pins s σ H Q I hw => h.run pins s σ H Q I (i _ _ _ hw)⟩
theorem PO.imp {X : Cx} {e : Option Expr} {t t' : TO} (h : PO X e t) (i : ∀ σ H Q, t' σ H Q → t σ H Q) : PO X e t' := ⟨fun pins s σ H Q I hw => h.run pins s σ H Q I (i _ _ _ hw)⟩
section
variable {X : Cx} {T : Tab} {F : Nat → List PV → Mem → R PV} {W : WX}
theorem StR.after {K : PySem.W.Frag} {ρ ρ' : Rho} {H H' : Hp} {ps : PSt} {σ : L2.St} (r : StR K ρ H ps σ) (s : Step ρ H ρ' H') : StR K ρ' H' ps σ := r.step s
theorem s_var {i : Nat} {x : Str} {pos : Pos} (hN : X.N[i]? = some x) (hv : Vis X.env.scope x) (hd : (x == ("__debug__" : Str)) = false) (hcd : (x == ("__classdict__" : Str)) = false) : PE X (.Name x pos) (rdE X.K T F W (.var i)) :=
  PE.imp (pe_var hN hv hd hcd) fun σ H Q ⟨ρ, μ, ps, hm, hs, o⟩ => by
    simp only [evE] at o
    split at o
    · rename_i p e
      obtain ⟨v, e1, r⟩ := hs.get e
      exact ⟨v, e1, out_val hm r o⟩
    · exact o.elim
theorem s_gl {k : Nat} {x : Str} {pos : Pos} {v : V} {u : Value} (hg : Gl X x) (hm : X.mg x = some u) (r : RelV v u) (hd : (x == ("__debug__" : Str)) = false) (hp : ∀ p, T.G[k]? = some p → ∀ ρ H, Rep X.K ρ H p v) : PE X (.Name x pos) (rdE X.K T F W (.gl k)) :=
  PE.imp (pe_glob hg hm r hd) fun σ H Q ⟨ρ, μ, ps, hm, hs, o⟩ => by
    simp only [evE, R.opt] at o
    split at o
    · rename_i p e
      exact out_val hm (hp _ e _ _) o
    · exact o.elim
theorem s_int {i : Int} {j : Nat} {pos : Pos} : PE X (.Constant (.int i) j pos) (rdE X.K T F W (.int i)) :=
  PE.imp pe_int fun σ H Q ⟨ρ, μ, ps, hm, hs, o⟩ => out_val hm (.int i) o
theorem s_bl {i : Bool} {j : Nat} {pos : Pos} : PE X (.Constant (.bool i) j pos) (rdE X.K T F W (.bl i)) :=
  PE.imp pe_bl fun σ H Q ⟨ρ, μ, ps, hm, hs, o⟩ => out_val hm (.bl i) o
theorem s_non {j : Nat} {pos : Pos} : PE X (.Constant .none j pos) (rdE X.K T F W .non) :=
  PE.imp pe_non fun σ H Q ⟨ρ, μ, ps, hm, hs, o⟩ => out_val hm .non o
theorem s_str {i : List Nat} {j : Nat} {pos : Pos} : PE X (.Constant (.str ⟨i.toArray⟩) j pos) (rdE X.K T F W (.str i)) :=
  PE.imp pe_str fun σ H Q ⟨ρ, μ, ps, hm, hs, o⟩ => out_val hm (.str i) o
theorem OpR.ex {α : Sort _} {f : Value → Value → Sem Value} {r : α → R2} (h : ∀ a, OpR X f (r a)) : OpR X f (fun x y H Q => ∃ a, r a x y H Q) := fun pins s σ H x y v u Q I rx ry ⟨a, q⟩ => h a pins s σ H x y v u Q I rx ry q
theorem CallR.ex {α : Sort _} {f : Value} {r : α → List V → Hp → VK → Prop} (h : ∀ a, CallR X f (r a)) : CallR X f (fun xs H Q => ∃ a, r a xs H Q) := fun pins s σ H xs us Q I rs ⟨a, q⟩ => h a pins s σ H xs us Q I rs q
theorem SlR.ex {α : Sort _} {r : α → V → Option Int → Option Int → Hp → VK → Prop} (h : ∀ a, SlR X (r a)) : SlR X (fun x lo hi H Q => ∃ a, r a x lo hi H Q) := fun pins s σ H x v vl vu lo hi sl Q I rx hs pl pu ⟨a, q⟩ => h a pins s σ H x v vl vu lo hi sl Q I rx hs pl pu q
/-- two operands, one behind the other -/
theorem two_ops {a b : E} {f : PV → PV → Mem → R PV} {σ : L2.St} {H : Hp} {Q : VK} {r : R2} {ta tb : TE} (ia : ∀ H Q, rdE X.K T F W a σ H Q → ta σ H Q) (ib : ∀ H Q, rdE X.K T F W b σ H Q → tb σ H Q)
    (hr : ∀ ρ H μ p q x y Q, MemOk X.K ρ H μ → Rep X.K ρ H p x → Rep X.K ρ H q y → Out X.K ρ H (f p q μ) Q (WS W T σ) T.att → r x y H Q)
    (h : ∃ ρ μ ps, MemOk X.K ρ H μ ∧ StR X.K ρ H ps σ ∧ Out X.K ρ H ((evE T.G F a ps μ).bind fun p μ => (evE T.G F b ps μ).bind fun q μ => f p q μ) Q (WS W T σ) T.att) : tOp r ta tb σ H Q := by
  obtain ⟨ρ, μ, ps, hm, hs, o⟩ := h
  refine ia _ _ ⟨ρ, μ, ps, hm, hs, (out_bind o).imp fun x H1 ⟨ρ1, μ1, p, s1, m1, r1, o1⟩ => ?_⟩
  refine ib _ _ ⟨ρ1, μ1, ps, m1, hs.step s1, (out_bind o1).imp fun y H2 ⟨ρ2, μ2, q, s2, m2, r2, o2⟩ => ?_⟩
  exact hr ρ2 H2 μ2 p q x y Q m2 (r1.step s2) r2 o2
theorem s_bin {m : Bool} {op : Operator} {a b : E} {ea eb : Expr} {pos : Pos} (ha : PE X ea (rdE X.K T F W a)) (hb : PE X eb (rdE X.K T F W b)) : PE X (.BinOp ea op eb pos) (rdE X.K T F W (.bin m op a b)) :=
  PE.imp (pe_op (OpR.ex fun W' => op_bin (W := W') (att := T.att) m op) ha hb) fun σ H Q h =>
    two_ops (fun _ _ h => h) (fun _ _ h => h) (fun ρ H μ p q x y Q hm hp hq o => ⟨_, ρ, μ, p, q, hm, hp, hq, o⟩) h
theorem s_cmp {op : CmpOp} {a b : E} {ea eb : Expr} {pos : Pos} (hu : X.A.units + 70 < cLine) (ha : PE X ea (rdE X.K T F W a)) (hb : PE X eb (rdE X.K T F W b)) (hm : behindInMarks op eb = false) : PE X (.Compare ea [op] [eb] pos) (rdE X.K T F W (.cmp op a b)) :=
  PE.imp (pe_cmpR (op_cmp hu op) ha hb hm) fun σ H Q h =>
    two_ops (fun _ _ h => h) (fun _ _ h => h) (fun ρ H μ p q x y Q hm hp hq o => by
      obtain ⟨b, e, q⟩ := out_okB hm o
      exact ⟨ρ, μ, _, _, b, hm, hp, hq, e, q⟩) h
/-- the reading of a test -/
def rdB (K : PySem.W.Frag) (T : Tab) (F : Nat → List PV → Mem → R PV) (W : WX) (e : E) : TT := fun σ H Q => rdE K T F W e σ H fun v H' => ∃ b, v = .bl b ∧ Q b H'
theorem t_cmp {op : CmpOp} {a b : E} {ea eb : Expr} {pos : Pos} (hu : X.A.units + 70 < cLine) (ha : PE X ea (rdE X.K T F W a)) (hb : PE X eb (rdE X.K T F W b)) (hm : behindInMarks op eb = false) : PT X (.Compare ea [op] [eb] pos) (rdB X.K T F W (.cmp op a b)) :=
  PT.imp (pt_cmpR (op_cmp hu op) ha hb hm) fun σ H Q h =>
    two_ops (Q := fun v H' => ∃ b, v = .bl b ∧ Q b H') (fun _ _ h => h) (fun _ _ h => h) (fun ρ H μ p q x y Q hm hp hq o => by
      obtain ⟨b, e, q⟩ := out_okB hm o
      exact ⟨ρ, μ, _, _, b, hm, hp, hq, e, q⟩) h
theorem chn_imp {op op' : CmpOp} {a b c : E} {σ : L2.St} {H : Hp} {Q : VK} (h : rdE X.K T F W (.chn op op' a b c) σ H Q) : tChain (rCmp X.K op) (rCmp X.K op') (rdE X.K T F W a) (rdE X.K T F W b) (rdE X.K T F W c) σ H Q := by
  obtain ⟨ρ, μ, ps, hm, hs, o⟩ := h
  simp only [evE] at o
  refine ⟨ρ, μ, ps, hm, hs, (out_bind o).imp fun x H1 ⟨ρ1, μ1, p, s1, m1, r1, o1⟩ => ?_⟩
  have hs1 := hs.step s1
  refine ⟨ρ1, μ1, ps, m1, hs1, (out_bind o1).imp fun y H2 ⟨ρ2, μ2, q, s2, m2, r2, o2⟩ => ?_⟩
  have hs2 := hs1.step s2
  cases e : cmpq op p q μ2 with
  | none => rw [e] at o2; exact o2.elim
  | some t =>
    rw [e] at o2
    refine ⟨ρ2, μ2, p, q, t, m2, r1.step s2, r2, e, t, rfl, ?_⟩
    simp only [okB, R.bind] at o2
    cases t with
    | false => exact out_val m2 (.bl false) o2
    | true =>
      simp only [if_true]
      refine ⟨ρ2, μ2, ps, m2, hs2, (out_bind o2).imp fun z H3 ⟨ρ3, μ3, r, s3, m3, r3, o3⟩ => ?_⟩
      obtain ⟨t', e', q'⟩ := out_okB m3 o3
      exact ⟨ρ3, μ3, q, r, t', m3, r2.step s3, r3, e', q'⟩
theorem s_chn {op op' : CmpOp} {a b c : E} {ea eb ec : Expr} {pos : Pos} (hu : X.A.units + 70 < cLine) (ha : PE X ea (rdE X.K T F W a)) (hb : PE X eb (rdE X.K T F W b)) (hc : PE X ec (rdE X.K T F W c)) (hm : lastMarks [op, op'] [eb, ec] = false) :
    PE X (.Compare ea [op, op'] [eb, ec] pos) (rdE X.K T F W (.chn op op' a b c)) := PE.imp (pe_chain (op_cmp hu op) (op_cmp hu op') ha hb hc hm) fun σ H Q h => chn_imp h
theorem t_chn {op op' : CmpOp} {a b c : E} {ea eb ec : Expr} {pos : Pos} (hu : X.A.units + 70 < cLine) (ha : PE X ea (rdE X.K T F W a)) (hb : PE X eb (rdE X.K T F W b)) (hc : PE X ec (rdE X.K T F W c)) (hm : lastMarks [op, op'] [eb, ec] = false) :
    PT X (.Compare ea [op, op'] [eb, ec] pos) (rdB X.K T F W (.chn op op' a b c)) := PT.imp (pt_chain (op_cmp hu op) (op_cmp hu op') ha hb hc hm) fun σ H Q h => chn_imp h
end
end HP
set_option Elab.async false
set_option linter.all false
set_option maxRecDepth 100000
set_option maxHeartbeats 4000000
namespace HP
open PySem PySem.Spec PyProof.Rows L2
section
variable {X : Cx} {T : Tab} {F : Nat → List PV → Mem → R PV} {W : WX}
theorem s_not {a : E} {ea : Expr} {pos : Pos} (ha : PE X ea (rdE X.K T F W a)) : PE X (.UnaryOp .Not ea pos) (rdE X.K T F W (.not a)) :=
  PE.imp (pe_not ha) fun σ H Q ⟨ρ, μ, ps, hm, hs, o⟩ => ⟨ρ, μ, ps, hm, hs, by
    simp only [evE] at o
    refine (out_bind o).imp fun x H1 ⟨ρ1, μ1, p, s1, m1, r1, o1⟩ => ?_
    split at o1
    · cases r1; exact ⟨_, rfl, out_val m1 (.bl _) o1⟩
    · exact o1.elim⟩
theorem t_not {a : E} {ea : Expr} {pos : Pos} (ha : PT X ea (rdB X.K T F W a)) : PT X (.UnaryOp .Not ea pos) (rdB X.K T F W (.not a)) :=
  PT.imp (pt_not ha) fun σ H Q ⟨ρ, μ, ps, hm, hs, o⟩ => ⟨ρ, μ, ps, hm, hs, by
    simp only [evE] at o
    refine (out_bind o).imp fun x H1 ⟨ρ1, μ1, p, s1, m1, r1, o1⟩ => ?_
    split at o1
    · cases r1
      refine ⟨_, rfl, ?_⟩
      obtain ⟨c, e, q⟩ := out_val m1 (.bl _) o1
      cases e; exact q
    · exact o1.elim⟩
theorem s_neg {a : E} {ea : Expr} {pos : Pos} (ha : PE X ea (rdE X.K T F W a)) : PE X (.UnaryOp .USub ea pos) (rdE X.K T F W (.neg a)) :=
  PE.imp (pe_un un_neg ha) fun σ H Q ⟨ρ, μ, ps, hm, hs, o⟩ => ⟨ρ, μ, ps, hm, hs, by
    simp only [evE] at o
    refine (out_bind o).imp fun x H1 ⟨ρ1, μ1, p, s1, m1, r1, o1⟩ => ?_
    split at o1
    · cases r1; exact ⟨_, rfl, out_val m1 (.int _) o1⟩
    · exact o1.elim⟩
theorem ife_imp {c a b : E} {σ : L2.St} {H : Hp} {Q : VK} (h : rdE X.K T F W (.ife c a b) σ H Q) : rdB X.K T F W c σ H fun d H1 => if d = true then rdE X.K T F W a σ H1 Q else rdE X.K T F W b σ H1 Q := by
  obtain ⟨ρ, μ, ps, hm, hs, o⟩ := h
  refine ⟨ρ, μ, ps, hm, hs, ?_⟩
  simp only [evE] at o
  refine (out_bind o).imp fun x H1 ⟨ρ1, μ1, p, s1, m1, r1, o1⟩ => ?_
  split at o1
  · cases r1
    refine ⟨true, rfl, ?_⟩
    simp only [if_true]
    exact ⟨ρ1, μ1, ps, m1, hs.step s1, o1⟩
  · cases r1
    refine ⟨false, rfl, ?_⟩
    simp only [Bool.false_eq_true, if_false]
    exact ⟨ρ1, μ1, ps, m1, hs.step s1, o1⟩
  · exact o1.elim
theorem s_ife {c a b : E} {ec ea eb : Expr} {pos : Pos} (hc : PT X ec (rdB X.K T F W c)) (ha : PE X ea (rdE X.K T F W a)) (hb : PE X eb (rdE X.K T F W b)) : PE X (.IfExp ec ea eb pos) (rdE X.K T F W (.ife c a b)) :=
  PE.imp (pe_ifExp hc ha hb) fun σ H Q h => ife_imp h
theorem pt_ifExp {ec ea eb : Expr} {pos : Pos} {tc ta tb : TT} (hc : PT X ec tc) (ha : PT X ea ta) (hb : PT X eb tb) : PT X (.IfExp ec ea eb pos) (fun σ H Q => tc σ H fun c H1 => if c = true then ta σ H1 Q else tb σ H1 Q) := by
  refine ⟨fun pins s σ H Q I h => ?_⟩
  rw [arm_isTrue_IfExp]
  refine wpAny_bind (thn (hc.run pins s σ H _ I h) fun d s1 ⟨H1, I1, q1⟩ => ?_)
  cases d with
  | true => exact ha.run pins s1 σ H1 Q I1 q1
  | false => exact hb.run pins s1 σ H1 Q I1 q1
theorem t_ife {c a b : E} {ec ea eb : Expr} {pos : Pos} (hc : PT X ec (rdB X.K T F W c)) (ha : PT X ea (rdB X.K T F W a)) (hb : PT X eb (rdB X.K T F W b)) : PT X (.IfExp ec ea eb pos) (rdB X.K T F W (.ife c a b)) :=
  PT.imp (pt_ifExp hc ha hb) fun σ H Q h => ife_imp h
/-! and, or -/
theorem s_and1 {a : E} {ea : Expr} {pos : Pos} (ha : PE X ea (rdE X.K T F W a)) : PE X (.BoolOp .And [ea] pos) (rdE X.K T F W (.conj (.cons a .nil))) := PE.imp (pe_one ha) fun σ H Q h => h
theorem s_or1 {a : E} {ea : Expr} {pos : Pos} (ha : PE X ea (rdE X.K T F W a)) : PE X (.BoolOp .Or [ea] pos) (rdE X.K T F W (.disj (.cons a .nil))) := PE.imp (pe_one ha) fun σ H Q h => h
theorem w_and1 {a : E} {ea : Expr} {pos : Pos} (ha : PT X ea (rdB X.K T F W a)) : PW X (.BoolOp .And [ea] pos) (rdB X.K T F W (.conj (.cons a .nil))) := PW.imp (pw_and1 ha) fun σ H Q h => h
theorem w_or1 {a : E} {ea : Expr} {pos : Pos} (ha : PT X ea (rdB X.K T F W a)) : PW X (.BoolOp .Or [ea] pos) (rdB X.K T F W (.disj (.cons a .nil))) := PW.imp (pw_or1 ha) fun σ H Q h => h
theorem and_imp {a b : E} {r : EL} {σ : L2.St} {H : Hp} {Q : VK} (h : rdE X.K T F W (.conj (.cons a (.cons b r))) σ H Q) : rdB X.K T F W a σ H fun c H1 => if c = true then rdE X.K T F W (.conj (.cons b r)) σ H1 Q else Q (.bl false) H1 := by
  obtain ⟨ρ, μ, ps, hm, hs, o⟩ := h
  refine ⟨ρ, μ, ps, hm, hs, ?_⟩
  simp only [evE, evAnd] at o
  refine (out_bind o).imp fun x H1 ⟨ρ1, μ1, p, s1, m1, r1, o1⟩ => ?_
  split at o1
  · cases r1
    refine ⟨true, rfl, ?_⟩
    simp only [if_true]
    exact ⟨ρ1, μ1, ps, m1, hs.step s1, by simp only [evE]; exact o1⟩
  · cases r1
    refine ⟨false, rfl, ?_⟩
    simp only [Bool.false_eq_true, if_false]
    exact out_val m1 (.bl false) o1
  · exact o1.elim
theorem or_imp {a b : E} {r : EL} {σ : L2.St} {H : Hp} {Q : VK} (h : rdE X.K T F W (.disj (.cons a (.cons b r))) σ H Q) : rdB X.K T F W a σ H fun c H1 => if c = true then Q (.bl true) H1 else rdE X.K T F W (.disj (.cons b r)) σ H1 Q := by
  obtain ⟨ρ, μ, ps, hm, hs, o⟩ := h
  refine ⟨ρ, μ, ps, hm, hs, ?_⟩
  simp only [evE, evOr] at o
  refine (out_bind o).imp fun x H1 ⟨ρ1, μ1, p, s1, m1, r1, o1⟩ => ?_
  split at o1
  · cases r1
    refine ⟨true, rfl, ?_⟩
    simp only [if_true]
    exact out_val m1 (.bl true) o1
  · cases r1
    refine ⟨false, rfl, ?_⟩
    simp only [Bool.false_eq_true, if_false]
    exact ⟨ρ1, μ1, ps, m1, hs.step s1, by simp only [evE]; exact o1⟩
  · exact o1.elim
theorem s_and2 {a b : E} {r : EL} {ea eb : Expr} {rest : List Expr} {pos : Pos} (ha : PE X ea (rdE X.K T F W a)) (hb : PE X (.BoolOp .And (eb :: rest) pos) (rdE X.K T F W (.conj (.cons b r)))) : PE X (.BoolOp .And (ea :: eb :: rest) pos) (rdE X.K T F W (.conj (.cons a (.cons b r)))) :=
  PE.imp (pe_and ha hb) fun σ H Q h => and_imp h
theorem s_or2 {a b : E} {r : EL} {ea eb : Expr} {rest : List Expr} {pos : Pos} (ha : PE X ea (rdE X.K T F W a)) (hb : PE X (.BoolOp .Or (eb :: rest) pos) (rdE X.K T F W (.disj (.cons b r)))) : PE X (.BoolOp .Or (ea :: eb :: rest) pos) (rdE X.K T F W (.disj (.cons a (.cons b r)))) :=
  PE.imp (pe_or ha hb) fun σ H Q h => or_imp h
theorem w_and2 {a b : E} {r : EL} {ea eb : Expr} {rest : List Expr} {pos : Pos} (ha : PT X ea (rdB X.K T F W a)) (hb : PW X (.BoolOp .And (eb :: rest) pos) (rdB X.K T F W (.conj (.cons b r)))) : PW X (.BoolOp .And (ea :: eb :: rest) pos) (rdB X.K T F W (.conj (.cons a (.cons b r)))) :=
  PW.imp (pw_and ha hb) fun σ H Q h => by
    obtain ⟨ρ, μ, ps, hm, hs, o⟩ := and_imp h
    refine ⟨ρ, μ, ps, hm, hs, o.imp fun v H' ⟨c, e, q⟩ => ⟨c, e, ?_⟩⟩
    cases c with
    | true => exact q
    | false =>
      simp only [Bool.false_eq_true, if_false] at q ⊢
      obtain ⟨c, e, q⟩ := q
      cases e; exact q
theorem w_or2 {a b : E} {r : EL} {ea eb : Expr} {rest : List Expr} {pos : Pos} (ha : PT X ea (rdB X.K T F W a)) (hb : PW X (.BoolOp .Or (eb :: rest) pos) (rdB X.K T F W (.disj (.cons b r)))) : PW X (.BoolOp .Or (ea :: eb :: rest) pos) (rdB X.K T F W (.disj (.cons a (.cons b r)))) :=
  PW.imp (pw_or ha hb) fun σ H Q h => by
    obtain ⟨ρ, μ, ps, hm, hs, o⟩ := or_imp h
    refine ⟨ρ, μ, ps, hm, hs, o.imp fun v H' ⟨c, e, q⟩ => ⟨c, e, ?_⟩⟩
    cases c with
    | false => exact q
    | true =>
      simp only [if_true] at q ⊢
      obtain ⟨c, e, q⟩ := q
      cases e; exact q
/-! subscripts -/
theorem s_idx {a b : E} {ea eb : Expr} {pos : Pos} (hu : X.A.units + 70 < cLine) (ha : PE X ea (rdE X.K T F W a)) (hb : PE X eb (rdE X.K T F W b)) (hx : PlainIx eb) : PE X (.Subscript ea eb pos) (rdE X.K T F W (.idx a b)) :=
  PE.imp (pe_ix (ix_q hu) ha hb hx) fun σ H Q h =>
    two_ops (f := fun p q μ => R.opt (idxq p q μ) μ) (fun _ _ h => h) (fun _ _ h => h) (fun ρ H μ p q x y Q hm hp hq o => by
      simp only [R.opt] at o
      split at o
      · rename_i r e
        exact ⟨ρ, μ, p, q, r, hm, hp, hq, e, fun v rv => out_val hm rv o⟩
      · exact o.elim) h
theorem o_nil : PO X none (rdP X.K T F W .nil) := PO.imp po_none fun σ H Q ⟨ρ, μ, ps, hm, hs, o⟩ => o ρ H .refl hm
theorem o_one {a : E} {ea : Expr} (ha : PE X ea (rdE X.K T F W a)) : PO X (some ea) (rdP X.K T F W (.cons a .nil)) := PO.imp (po_some ha) fun σ H Q ⟨ρ, μ, ps, hm, hs, o⟩ => ⟨ρ, μ, ps, hm, hs, by
  simp only [evPt] at o
  refine (outG_bind o).imp fun x H1 ⟨ρ1, μ1, p, s1, m1, r1, o1⟩ => ?_
  split at o1
  · cases r1; exact ⟨_, rfl, o1 ρ1 H1 .refl m1⟩
  · exact o1.elim⟩
theorem s_slc {m : Bool} {a : E} {lo hi : EL} {ea : Expr} {el eh : Option Expr} {p2 pos : Pos} (ha : PE X ea (rdE X.K T F W a)) (hl : PO X el (rdP X.K T F W lo)) (hh : PO X eh (rdP X.K T F W hi)) : PE X (.Subscript ea (.Slice el eh none p2) pos) (rdE X.K T F W (.slc m a lo hi)) :=
  PE.imp (pe_slice (SlR.ex fun W' => sl_q (W := W') (att := T.att) m) ha hl hh) fun σ H Q ⟨ρ, μ, ps, hm, hs, o⟩ => ⟨ρ, μ, ps, hm, hs, by
    simp only [evE] at o
    refine (out_bind o).imp fun x H1 ⟨ρ1, μ1, p, s1, m1, r1, o1⟩ => ?_
    have hs1 := hs.step s1
    refine ⟨ρ1, μ1, ps, m1, hs1, (out_bindG o1).imp fun l μ2 ρ2 H2 ⟨s2, m2, o2⟩ => ?_⟩
    have hs2 := hs1.step s2
    refine ⟨ρ2, μ2, ps, m2, hs2, (out_bindG o2).imp fun u μ3 ρ3 H3 ⟨s3, m3, o3⟩ => ?_⟩
    exact ⟨_, ρ3, μ3, p, m3, (r1.step s2).step s3, o3⟩⟩
/-! displays -/
theorem a_nil : PA X [] (rdA X.K T F W .nil) := PA.imp pa_nil fun σ H Q ⟨ρ, μ, ps, hm, hs, o⟩ => o ρ H .refl hm [] .nil
theorem a_cons {a : E} {r : EL} {ea : Expr} {es : List Expr} (ha : PE X ea (rdE X.K T F W a)) (hr : PA X es (rdA X.K T F W r)) (hs : starEach (ea :: es) X.env = (false, eval ea X.env) :: starEach es X.env) : PA X (ea :: es) (rdA X.K T F W (.cons a r)) :=
  PA.imp (pa_cons ha hr hs) fun σ H Q ⟨ρ, μ, ps, hm, hs, o⟩ => ⟨ρ, μ, ps, hm, hs, by
    simp only [evEL] at o
    refine (outG_bind o).imp fun x H1 ⟨ρ1, μ1, p, s1, m1, r1, o1⟩ => ?_
    refine ⟨ρ1, μ1, ps, m1, hs.step s1, (outG_bindG o1).imp fun xs μ2 ρ2 H2 ⟨s2, m2, o2⟩ vs rv => ?_⟩
    exact o2 ρ2 H2 .refl m2 _ (.cons (r1.step s2) rv)⟩
theorem a_star {a : E} {r : EL} {ea : Expr} {p : Pos} {es : List Expr} (ha : PE X ea (rdE X.K T F W a)) (hr : PA X es (rdA X.K T F W r)) : PA X (.Starred ea p :: es) (rdA X.K T F W (.star a r)) :=
  PA.imp (StX.pa_star ha hr) fun σ H Q ⟨ρ, μ, ps, hm, hs, o⟩ => ⟨ρ, μ, ps, hm, hs, by
    simp only [evEL] at o
    refine (outG_bind o).imp fun x H1 ⟨ρ1, μ1, p, s1, m1, r1, o1⟩ => ?_
    split at o1
    · rename_i xs hx
      obtain ⟨a, vs, rfl, h1, h2⟩ := sq_r m1 r1 hx
      refine ⟨a, vs, rfl, h1.symm, ρ1, μ1, ps, m1, hs.step s1, (outG_bindG o1).imp fun ys μ2 ρ2 H2 ⟨s2, m2, o2⟩ ws rv => ?_⟩
      exact o2 ρ2 H2 .refl m2 _ ((h2.step s2).append rv)
    · exact o1.elim⟩
theorem s_tup {es : EL} {ees : List Expr} {k : Nat} {pos : Pos} (h : PA X ees (rdA X.K T F W es)) : PE X (.Tuple ees k pos) (rdE X.K T F W (.tup es)) :=
  PE.imp (pe_tupF h) fun σ H Q ⟨ρ, μ, ps, hm, hs, o⟩ => ⟨ρ, μ, ps, hm, hs, by
    simp only [evE] at o
    refine (out_bindG o).imp fun xs μ1 ρ1 H1 ⟨s1, m1, o1⟩ vs rv => ?_
    split at o1
    · rename_i c
      exact ⟨by rw [← rv.length]; exact ble_line c, out_tup m1 rv o1⟩
    · exact o1.elim⟩
theorem s_lst {m : Bool} {es : EL} {ees : List Expr} {pos : Pos} (h : PA X ees (rdA X.K T F W es)) : PE X (.List ees pos) (rdE X.K T F W (.lst m es)) :=
  PE.imp (pe_lst h) fun σ H Q ⟨ρ, μ, ps, hm, hs, o⟩ => ⟨ρ, μ, ps, hm, hs, by
    simp only [evE] at o
    refine (out_bindG o).imp fun xs μ1 ρ1 H1 ⟨s1, m1, o1⟩ vs rv => ?_
    split at o1
    · rename_i c
      exact ⟨by rw [← rv.length]; exact ble_line c, out_lst m1 rv o1⟩
    · exact o1.elim⟩
theorem s_dct {m : Bool} {pos : Pos} : PE X (.Dict [] [] pos) (rdE X.K T F W (.dct m)) :=
  PE.imp pe_dnewK fun σ H Q ⟨ρ, μ, ps, hm, hs, o⟩ => out_dct hm .nil o
/-! built-in functions -/
theorem a_one {a : E} {ea : Expr} (ha : PE X ea (rdE X.K T F W a)) (hs : starEach [ea] X.env = (false, eval ea X.env) :: starEach [] X.env) {r : List V → Hp → VK → Prop} {σ : L2.St} {H : Hp} {Q : VK} : PA X [ea] (tCons (rdE X.K T F W a) tNil) := pa_cons ha pa_nil hs
theorem BF.boot (b : BF) : bootBuiltins b.nm = some b.val := by cases b <;> decide +kernel
theorem s_bf1 {m : Bool} {b : BF} {a : E} {ea : Expr} {p pos : Pos} (hc : X.calm = true) (hg : Gl X b.nm) (hm : X.mg b.nm = none) (ha : PE X ea (rdE X.K T F W a)) (hs : starEach [ea] X.env = (false, eval ea X.env) :: starEach [] X.env) : PE X (.Call (.Name b.nm p) [ea] [] pos) (rdE X.K T F W (.bf1 m b a)) := by
  have hn : b.nm ≠ "__name__" := by cases b <;> decide
  have hd : (b.nm == ("__debug__" : Str)) = false := by cases b <;> decide
  have hb := b.boot
  have cq : CallR X b.val (fun xs H Q => ∃ W', rBF1 X.K m b W' T.att xs H Q) := CallR.ex fun W' => cq1 (W := W') (att := T.att) hc m b
  have key : ∀ {t : TE}, t = tCB (fun xs H Q => ∃ W', rBF1 X.K m b W' T.att xs H Q) (tCons (rdE X.K T F W a) tNil) → PE X (.Call (.Name b.nm p) [ea] [] pos) t → PE X (.Call (.Name b.nm p) [ea] [] pos) (rdE X.K T F W (.bf1 m b a)) := fun {t} et h => PE.imp h fun σ H Q ⟨ρ, μ, ps, hm, hs, o⟩ => by
    subst et
    refine ⟨ρ, μ, ps, hm, hs, ?_⟩
    simp only [evE] at o
    refine (out_bind o).imp fun x H1 ⟨ρ1, μ1, p, s1, m1, r1, o1⟩ => ?_
    exact ⟨_, ρ1, μ1, p, x, rfl, m1, r1, o1⟩
  cases b
  all_goals first
    | exact key rfl (pe_callB cq hg hm hb (pa_cons ha pa_nil hs) hn hd hs rfl)
    | exact key rfl (pe_callTy cq hg hm hb (pa_cons ha pa_nil hs) hn hd hs rfl)
theorem s_bf2 {b : BF} {a c : E} {ea ec : Expr} {p pos : Pos} (hc : X.calm = true) (hg : Gl X b.nm) (hm : X.mg b.nm = none) (ha : PE X ea (rdE X.K T F W a)) (hcc : PE X ec (rdE X.K T F W c)) (hs : starEach [ea, ec] X.env = (false, eval ea X.env) :: starEach [ec] X.env) (hs2 : starEach [ec] X.env = (false, eval ec X.env) :: starEach [] X.env) :
    PE X (.Call (.Name b.nm p) [ea, ec] [] pos) (rdE X.K T F W (.bf2 b a c)) := by
  have hn : b.nm ≠ "__name__" := by cases b <;> decide
  have hd : (b.nm == ("__debug__" : Str)) = false := by cases b <;> decide
  have hb := b.boot
  have hpl : (backTo pos (starEach [ec] X.env)).any (·.1) = false := by rw [hs2]; rfl
  have cq : CallR X b.val (fun xs H Q => ∃ W', rBF2 X.K b W' T.att xs H Q) := CallR.ex fun W' => cq2 (W := W') (att := T.att) hc b
  have key : ∀ {t : TE}, t = tCB (fun xs H Q => ∃ W', rBF2 X.K b W' T.att xs H Q) (tCons (rdE X.K T F W a) (tCons (rdE X.K T F W c) tNil)) → PE X (.Call (.Name b.nm p) [ea, ec] [] pos) t → PE X (.Call (.Name b.nm p) [ea, ec] [] pos) (rdE X.K T F W (.bf2 b a c)) := fun {t} et h => PE.imp h fun σ H Q ⟨ρ, μ, ps, hm, hs, o⟩ => by
    subst et
    refine ⟨ρ, μ, ps, hm, hs, ?_⟩
    simp only [evE] at o
    refine (out_bind o).imp fun x H1 ⟨ρ1, μ1, p, s1, m1, r1, o1⟩ => ?_
    refine ⟨ρ1, μ1, ps, m1, hs.step s1, (out_bind o1).imp fun y H2 ⟨ρ2, μ2, q, s2, m2, r2, o2⟩ => ?_⟩
    exact ⟨_, ρ2, μ2, p, q, x, y, rfl, m2, r1.step s2, r2, o2⟩
  cases b
  all_goals first
    | exact key rfl (pe_callB cq hg hm hb (pa_cons ha (pa_cons hcc pa_nil hs2) hs) hn hd hs hpl)
    | exact key rfl (pe_callTy cq hg hm hb (pa_cons ha (pa_cons hcc pa_nil hs2) hs) hn hd hs hpl)
/-! isinstance -/
def Ty.sn : Ty → Str
  | .int => "int"
  | .bool => "bool"
  | .str => "str"
  | .tup => "tuple"
  | .lst => "list"
  | .dct => "dict"
theorem Ty.boot (t : Ty) : bootBuiltins t.sn = some (.type t.nm) := by cases t <;> decide +kernel
theorem pe_ty (t : Ty) {p : Pos} (hg : Gl X t.sn) (hm : X.mg t.sn = none) : PE X (.Name t.sn p) (tC (.ty t.nm)) :=
  pe_bltn hg hm t.boot rfl (by cases t <;> decide) (by cases t <;> decide)
theorem s_isT1 {a : E} {t : Ty} {ea : Expr} {p p1 pos : Pos} (hg : Gl X "isinstance") (hm : X.mg "isinstance" = none) (hgt : Gl X t.sn) (hmt : X.mg t.sn = none) (ha : PE X ea (rdE X.K T F W a)) (hs : starEach [ea, .Name t.sn p1] X.env = (false, eval ea X.env) :: starEach [.Name t.sn p1] X.env) :
    PE X (.Call (.Name "isinstance" p) [ea, .Name t.sn p1] [] pos) (rdE X.K T F W (.isT a true [t])) :=
  PE.imp (pe_callB (call_isq1 t) hg hm (by decide +kernel) (pa_cons ha (pa_cons (pe_ty t hgt hmt) pa_nil rfl) hs) (by decide) (by decide) hs rfl) fun σ H Q ⟨ρ, μ, ps, hm, hs, o⟩ => by
    refine ⟨ρ, μ, ps, hm, hs, ?_⟩
    simp only [evE] at o
    refine (out_bind o).imp fun x H1 ⟨ρ1, μ1, p, s1, m1, r1, o1⟩ => ?_
    exact ⟨ρ1, μ1, p, x, m1, r1, rfl, out_val m1 (.bl _) o1⟩
def tTys (ts : List Ty) : TA := fun _ H Q => Q (ts.map fun t => V.ty t.nm) H
theorem pa_tys : ∀ (ts : List Ty) (es : List Expr), (es.length = ts.length) → (∀ (i : Nat) (t : Ty) (e : Expr), ts[i]? = some t → es[i]? = some e → ∃ p, e = .Name t.sn p ∧ Gl X t.sn ∧ X.mg t.sn = none) → PA X es (tTys ts) := by
  intro ts
  induction ts with
  | nil =>
    intro es hl h
    cases es with
    | nil => exact PA.imp pa_nil fun σ H Q h => h
    | cons e es => cases hl
  | cons t ts ih =>
    intro es hl h
    cases es with
    | nil => cases hl
    | cons e es =>
      obtain ⟨p, rfl, hg, hm⟩ := h 0 t e rfl rfl
      refine PA.imp (pa_cons (pe_ty t hg hm) (ih es (by simpa using hl) fun i t' e' h1 h2 => h (i + 1) t' e' (by simpa using h1) (by simpa using h2)) rfl) fun σ H Q h => ?_
      exact h
theorem s_isTT {a : E} {ts : List Ty} {es : List Expr} {k : Nat} {ea : Expr} {p p1 pos : Pos} (hl : ts.length ≤ sizeLine) (hg : Gl X "isinstance") (hm : X.mg "isinstance" = none) (ht : PA X es (tTys ts)) (ha : PE X ea (rdE X.K T F W a)) (hs : starEach [ea, .Tuple es k p1] X.env = (false, eval ea X.env) :: starEach [.Tuple es k p1] X.env) :
    PE X (.Call (.Name "isinstance" p) [ea, .Tuple es k p1] [] pos) (rdE X.K T F W (.isT a false ts)) :=
  PE.imp (pe_callB (call_isqT ts) hg hm (by decide +kernel) (pa_cons ha (pa_cons (pe_tup ht) pa_nil rfl) hs) (by decide) (by decide) hs rfl) fun σ H Q ⟨ρ, μ, ps, hm, hs, o⟩ => by
    refine ⟨ρ, μ, ps, hm, hs, ?_⟩
    simp only [evE] at o
    refine (out_bind o).imp fun x H1 ⟨ρ1, μ1, p, s1, m1, r1, o1⟩ => ?_
    refine ⟨by simpa using hl, fun tp hp => ?_⟩
    have o2 := Out.step (step_new (o := .tup (ts.map fun t => V.ty t.nm)) hp) o1
    exact ⟨ρ1, μ1, p, x, tp, m1.new hp, r1.step (step_new hp), rfl, upd_same, out_val (m1.new hp) (.bl _) o2⟩
end
end HP
set_option Elab.async false
set_option linter.all false
set_option maxRecDepth 100000
set_option maxHeartbeats 4000000
namespace HP
open PySem PySem.Spec PyProof.Rows L2

/-! ### targets -/
/-- alike but at those places -/
def Same (vs : List Nat) (a b : L2.St) : Prop := a.length = b.length ∧ ∀ i, i ∉ vs → a[i]? = b[i]?
theorem Same.refl {vs : List Nat} {a : L2.St} : Same vs a a := ⟨rfl, fun _ _ => rfl⟩
theorem Same.trans {vs : List Nat} {a b c : L2.St} (h : Same vs a b) (g : Same vs b c) : Same vs a c := ⟨h.1.trans g.1, fun i n => (h.2 i n).trans (g.2 i n)⟩
theorem Same.mono {vs ws : List Nat} {a b : L2.St} (h : Same vs a b) (s : ∀ i ∈ vs, i ∈ ws) : Same ws a b := ⟨h.1, fun i n => h.2 i fun z => n (s i z)⟩
theorem wipe_get (σ : L2.St) : ∀ (vs : List Nat) (i : Nat), i ∉ vs → (wipe σ vs)[i]? = σ[i]?
  | [], _, _ => rfl
  | v :: vs, i, h => by
    simp only [List.mem_cons, not_or] at h
    unfold wipe
    rw [List.getElem?_set_ne (fun z => h.1 z.symm)]
    exact wipe_get σ vs i h.2
theorem wipe_at (σ : L2.St) : ∀ (vs : List Nat) (i : Nat), i ∈ vs → i < σ.length → (wipe σ vs)[i]? = some none
  | [], _, h, _ => by cases h
  | v :: vs, i, h, hl => by
    unfold wipe
    by_cases z : v = i
    · subst z
      rw [List.getElem?_set_self (by rw [wipe_length]; exact hl)]
    · rw [List.getElem?_set_ne z]
      rcases List.mem_cons.mp h with e | h
      · exact absurd e.symm z
      · exact wipe_at σ vs i h hl
theorem wipe_same {vs : List Nat} {a b : L2.St} (h : Same vs a b) : wipe a vs = wipe b vs := by
  refine List.ext_getElem? fun i => ?_
  by_cases hi : i ∈ vs
  · by_cases hl : i < a.length
    · rw [wipe_at a vs i hi hl, wipe_at b vs i hi (by rw [← h.1]; exact hl)]
    · rw [List.getElem?_eq_none (by rw [wipe_length]; omega), List.getElem?_eq_none (by rw [wipe_length, ← h.1]; omega)]
  · rw [wipe_get a vs i hi, wipe_get b vs i hi]
    exact h.2 i hi
theorem wipe_wipe {vs : List Nat} (σ : L2.St) : wipe (wipe σ vs) vs = wipe σ vs := wipe_same ⟨wipe_length σ vs, fun i n => wipe_get σ vs i n⟩
mutual
def TG.ids : TG → List Nat
  | .nm i => [i]
  | .tup ts => ts.ids
def TGL.ids : TGL → List Nat
  | .nil => []
  | .cons t r => t.ids ++ r.ids
end
section
variable {K : PySem.W.Frag} {ρ : Rho} {H : Hp}
theorem StR.wipe : ∀ (vs : List Nat) {ps : PSt} {σ : L2.St}, StR K ρ H ps σ → StR K ρ H (wipeP ps vs) (L2.wipe σ vs)
  | [], _, _, r => r
  | v :: vs, _, _, r => (StR.wipe vs r).clear v none
/-- the names behind a target -/
def gT (K : PySem.W.Frag) (tg : TG) : L2.TG := fun v σ H Q => ∃ ρ μ ps p ps', MemOk K ρ H μ ∧ StR K ρ H ps σ ∧ Rep K ρ H p v ∧ bindT tg p ps = some ps' ∧ ∀ σ', StR K ρ H ps' σ' → Same tg.ids σ σ' → Q σ' H
def gTs (K : PySem.W.Frag) (ts : TGL) : TGs := fun vs σ H Q => ∃ ρ μ ps xs ps', MemOk K ρ H μ ∧ StR K ρ H ps σ ∧ RepL K ρ H xs vs ∧ bindTs ts xs ps = some ps' ∧ ∀ σ', StR K ρ H ps' σ' → Same ts.ids σ σ' → Q σ' H
def gY (K : PySem.W.Frag) (tg : TG) : L2.TG := fun v σ H Q => ∃ ρ μ ps y ps', MemOk K ρ H μ ∧ StR K ρ H ps σ ∧ RepY K ρ H y v ∧ bindY tg y ps = some ps' ∧ ∀ σ', StR K ρ H ps' σ' → Same tg.ids σ σ' → Q σ' H
end
def notStar : Expr → Bool
  | .Starred _ _ => false
  | _ => true
theorem star_no {e : Expr} {es : List Expr} {env : Env} (h : notStar e = true) : starEach (e :: es) env = (false, eval e env) :: starEach es env := by
  cases e <;> first | rfl | cases h
theorem stars_no : ∀ {es : List Expr} {env : Env} {pos : Pos}, es.all notStar = true → (backTo pos (starEach es env)).any (·.1) = false := by
  intro es
  induction es with
  | nil => intro env pos _; rfl
  | cons e es ih =>
    intro env pos h
    simp only [List.all_cons, Bool.and_eq_true] at h
    rw [star_no h.1]
    have := ih (env := env) (pos := pos) h.2
    simpa [backTo] using this
theorem asg_no {e : Expr} {es : List Expr} {env : Env} (h : notStar e = true) : assignEach (e :: es) env = (false, assign e env) :: assignEach es env := by
  cases e <;> first | rfl | cases h
theorem asgs_no : ∀ {es : List Expr} {env : Env}, es.all notStar = true → (assignEach es env).length = es.length ∧ (assignEach es env).findIdx? (·.1) = none := by
  intro es
  induction es with
  | nil => intro env _; exact ⟨rfl, rfl⟩
  | cons e es ih =>
    intro env h
    simp only [List.all_cons, Bool.and_eq_true] at h
    rw [asg_no h.1]
    obtain ⟨h1, h2⟩ := ih (env := env) h.2
    exact ⟨by simp [h1], by simp [List.findIdx?_cons, h2]⟩
def isLoc (fn : Str → Bool) (sc : Scope) (x : Str) : Bool :=
  match sc.names.lookup x with
  | some .local => true
  | some .cell => fn x
  | _ => false
def isVis (sc : Scope) (x : Str) : Bool :=
  match sc.names.lookup x with
  | some .local => true
  | some .cell => true
  | some .free => true
  | _ => false
def isGl (sc : Scope) (x : Str) : Bool :=
  match sc.names.lookup x with
  | some .globalImplicit => true
  | _ => false
theorem isLoc_of {fn : Str → Bool} {sc : Scope} {x : Str} (h : isLoc fn sc x = true) : Loc sc x ∧ (fn x = true ∨ sc.names.lookup x = some .local) := by
  unfold isLoc at h
  split at h
  · rename_i e; exact ⟨.inl e, .inr e⟩
  · rename_i e; exact ⟨.inr e, .inl h⟩
  · cases h
theorem isVis_of {sc : Scope} {x : Str} (h : isVis sc x = true) : Vis sc x := by
  unfold isVis at h
  split at h
  · rename_i e; exact .inl e
  · rename_i e; exact .inr (.inl e)
  · rename_i e; exact .inr (.inr e)
  · cases h
theorem isGl_of {X : Cx} {x : Str} (h : isGl X.env.scope x = true) : Gl X x := by
  unfold isGl at h
  split at h
  · rename_i e; exact e
  · cases h
mutual
def chkT (N : List Str) (fn : Str → Bool) (sc : Scope) : TG → Expr → Bool
  | .nm i, .Name x _ => decide (N[i]? = some x) && isLoc fn sc x
  | .tup ts, .Tuple es _ _ => es.all notStar && chkTs N fn sc ts es
  | _, _ => false
def chkTs (N : List Str) (fn : Str → Bool) (sc : Scope) : TGL → List Expr → Bool
  | .nil, [] => true
  | .cons t r, e :: es => chkT N fn sc t e && chkTs N fn sc r es
  | _, _ => false
end
section
variable {X : Cx}
theorem bindTs_len : ∀ (ts : TGL) (xs : List PV) (ps ps' : PSt) (es : List Expr), bindTs ts xs ps = some ps' → chkTs X.N X.fn X.env.scope ts es = true → xs.length = es.length
  | .nil, [], _, _, [], _, _ => rfl
  | .nil, [], _, _, _ :: _, _, h => by cases h
  | .nil, _ :: _, _, _, _, e, _ => by simp [bindTs] at e
  | .cons t r, [], _, _, _, e, _ => by simp [bindTs] at e
  | .cons t r, x :: xs, ps, ps', [], _, h => by cases h
  | .cons t r, x :: xs, ps, ps', e :: es, h, hc => by
    simp only [bindTs] at h
    simp only [chkTs, Bool.and_eq_true] at hc
    cases h1 : bindT t x ps with
    | none => rw [h1] at h; cases h
    | some ps1 =>
      rw [h1] at h
      simp [bindTs_len r xs ps1 ps' es h hc.2]
mutual
theorem s_tg (hN : X.N.Nodup) (hc : X.calm = true) : ∀ (tg : TG) (e : Expr), chkT X.N X.fn X.env.scope tg e = true → PG X e (gT X.K tg)
  | .nm i, e, h => by
    cases e with
    | Name x pos =>
      simp only [chkT, Bool.and_eq_true, decide_eq_true_eq] at h
      obtain ⟨h1, h2⟩ := isLoc_of h.2
      have g := pg_name (X := X) (pos := pos) hN h.1 h1 h2
      refine ⟨fun pins s σ H v u Q I r ⟨ρ, μ, ps, p, ps', hm, hs, hp, e, q⟩ => g.run pins s σ H v u Q I r ?_⟩
      simp only [bindT, Option.some.injEq] at e
      subst e
      refine q _ (hs.set hp i) ⟨by simp, fun j hj => ?_⟩
      have : i ≠ j := fun z => hj (by rw [z]; simp [TG.ids])
      rw [List.getElem?_set_ne this]
    | _ => simp [chkT] at h
  | .tup ts, e, h => by
    cases e with
    | Tuple es k pos =>
      simp only [chkT, Bool.and_eq_true] at h
      obtain ⟨h1, h2⟩ := asgs_no (env := X.env) h.1
      have g := pg_tup (X := X) (k := k) (pos := pos) hc (s_tgs hN hc ts es h.2 h.1) h1 h2
      refine ⟨fun pins s σ H v u Q I r ⟨ρ, μ, ps, p, ps', hm, hs, hp, e, q⟩ => g.run pins s σ H v u Q I r ?_⟩
      cases p with
      | tup xs =>
        obtain ⟨a, vs, o, rfl, ea, _, rl⟩ := tup_inv hp
        simp only [bindT] at e
        exact ⟨a, vs, rfl, frT ea, by rw [← rl.length]; exact bindTs_len ts xs ps ps' es e h.2, ρ, μ, ps, xs, ps', hm, hs, rl, e, q⟩
      | _ => simp [bindT] at e
    | _ => simp [chkT] at h
theorem s_tgs (hN : X.N.Nodup) (hc : X.calm = true) : ∀ (ts : TGL) (es : List Expr), chkTs X.N X.fn X.env.scope ts es = true → es.all notStar = true → PGs X es (gTs X.K ts)
  | .nil, es, h, _ => by
    cases es with
    | nil =>
      refine ⟨fun pins s σ H vs us Q I r ⟨ρ, μ, ps, xs, ps', hm, hs, hp, e, q⟩ => pgs_nil.run pins s σ H vs us Q I r ?_⟩
      cases xs with
      | nil =>
        cases hp
        simp only [bindTs, Option.some.injEq] at e
        subst e
        exact ⟨rfl, q σ hs .refl⟩
      | cons _ _ => simp [bindTs] at e
    | cons _ _ => simp [chkTs] at h
  | .cons t r, es, h, hn => by
    cases es with
    | nil => simp [chkTs] at h
    | cons e es =>
      simp only [chkTs, Bool.and_eq_true] at h
      simp only [List.all_cons, Bool.and_eq_true] at hn
      have g := pgs_cons (s_tg hN hc t e h.1) (s_tgs hN hc r es h.2 hn.2) (by rw [asg_no hn.1]; rfl)
      refine ⟨fun pins s σ H vs us Q I rv ⟨ρ, μ, ps, xs, ps', hm, hs, hp, e, q⟩ => g.run pins s σ H vs us Q I rv ?_⟩
      cases xs with
      | nil => simp [bindTs] at e
      | cons x xs =>
        cases hp with
        | cons h1 h2 =>
          simp only [bindTs] at e
          cases e1 : bindT t x ps with
          | none => rw [e1] at e; cases e
          | some ps1 =>
            rw [e1] at e
            refine ⟨_, _, rfl, ρ, μ, ps, x, ps1, hm, hs, h1, e1, fun σ1 r1 sm => ?_⟩
            exact ⟨ρ, μ, ps1, xs, ps', hm, r1, h2, e, fun σ2 r2 sm2 => q σ2 r2 ((sm.mono fun i hi => by simp [TGL.ids, hi]).trans (sm2.mono fun i hi => by simp [TGL.ids, hi]))⟩
end
theorem s_ty (hN : X.N.Nodup) (hc : X.calm = true) (tg : TG) (e : Expr) (h : chkT X.N X.fn X.env.scope tg e = true) : PG X e (gY X.K tg) := by
  refine ⟨fun pins s σ H v u Q I r ⟨ρ, μ, ps, y, ps', hm, hs, hy, eb, q⟩ => ?_⟩
  cases y with
  | one p => exact (s_tg hN hc tg e h).run pins s σ H v u Q I r ⟨ρ, μ, ps, p, ps', hm, hs, hy, eb, q⟩
  | two p p2 =>
    cases tg with
    | nm i => simp [bindY] at eb
    | tup ts =>
      cases e with
      | Tuple es k pos =>
        simp only [chkT, Bool.and_eq_true] at h
        obtain ⟨h1, h2⟩ := asgs_no (env := X.env) h.1
        have g := pg_tup (X := X) (k := k) (pos := pos) hc (s_tgs hN hc ts es h.2 h.1) h1 h2
        refine g.run pins s σ H v u Q I r ?_
        obtain ⟨a, v1, w1, rfl, ht, r1, r2⟩ := hy
        simp only [bindY] at eb
        exact ⟨a, [v1, w1], rfl, ht, bindTs_len ts [p, p2] ps ps' es eb h.2, ρ, μ, ps, [p, p2], ps', hm, hs, .cons r1 (.cons r2 .nil), eb, q⟩
      | _ => simp [chkT] at h
end
end HP
set_option Elab.async false
set_option linter.all false
set_option maxRecDepth 100000
set_option maxHeartbeats 4000000
namespace HP
open PySem PySem.Spec PyProof.Rows L2
section
variable {K : PySem.W.Frag} {ρ : Rho} {H : Hp} {μ : Mem}
/-- a plain dict becomes known to the object -/
theorem step_freeze {d : Addr} {o : Obj} {ks : List (Key × V)} (n : d ∉ ρ.all) (e : H d = some (.dK ks)) : Step ρ H ρ (upd H d (.frz o (.dK ks))) := by
  refine ⟨⟨[], by simp, by simp⟩, rfl, fun a u na ea => ?_, fun a o' u ea => ?_⟩
  · by_cases z : a = d
    · subst z
      rw [e] at ea; cases ea
      exact .inr ⟨(Rho.not_all.mp n).2, o, ks, rfl, upd_same⟩
    · exact .inl (by rw [upd_ne z]; exact ea)
  · by_cases z : a = d
    · subst z; rw [e] at ea; cases ea
    · rw [upd_ne z]; exact ea
theorem MemOk.freeze {d : Addr} {o : Obj} {ks : List (Key × V)} (m : MemOk K ρ H μ) (n : d ∉ ρ.all) (e : H d = some (.dK ks)) : MemOk K ρ (upd H d (.frz o (.dK ks))) μ := by
  refine ⟨m.nd, m.len, fun i a ea => ?_, m.hids (step_freeze n e)⟩
  obtain ⟨mo, e1, r⟩ := m.all i a ea
  exact ⟨mo, e1, r.step (step_freeze n e) (upd_ne fun z => Rho.not_st n (by rw [← z]; exact List.mem_of_getElem? ea))⟩
end
section
variable {X : Cx} {tg e : Expr}
def iOver (K : PySem.W.Frag) (te : TE) : TI := fun σ H R => te σ H fun x H1 =>
  (∃ a, x = .ref a ∧ (∃ xs, SqL K H1 a xs) ∧ R (Itl K a) H1) ∨ (∃ a, x = .ref a ∧ (∃ xs, SqT K H1 a xs) ∧ R (Itt K a) H1) ∨ (∃ z, x = .str z ∧ R (Its z) H1) ∨
  (∃ d o ks, x = .ref d ∧ H1 d = some (.frz o (.dK ks)) ∧ R (Itk d o ks) H1) ∨ (∃ d ks, x = .ref d ∧ H1 d = some (.dK ks) ∧ ∀ o, R (Itk d o ks) (upd H1 d (.frz o (.dK ks))))
theorem pi_over {te : TE} (he : PE X e te) : PI X tg e (iOver X.K te) := by
  refine ⟨fun pins s σ H R I h => ?_⟩
  refine thn (he.run pins s σ H _ I h) fun u s1 ⟨x, H1, I1, rx, q⟩ => ?_
  rcases q with ⟨a, ex, ⟨xs, hq⟩, q⟩ | ⟨a, ex, ⟨xs, hq⟩, q⟩ | ⟨z, ex, q⟩ | ⟨d, o, ks, ex, hd, q⟩ | ⟨d, ks, ex, hd, q⟩
  · subst ex
    cases rx
    obtain ⟨its, rv, p, hz⟩ := I1.list hq
    refine wpAny_pyIter_list p.isList ?_
    refine ⟨s1.heap.objs.size, [s1.heap.objs.size], _, _, H1, rfl, I1.kept (t' := s1.toks) fun b o e => Heap.get?_push_of_some _ e, turn_list a _, ⟨_, Heap.get?_push_size _ rfl, rfl, rfl⟩, fun b hb => ?_, q⟩
    have e : b = s1.heap.objs.size := by simpa using hb
    subst e
    exact I1.fpOk (Nat.le_refl _) (I1.hok.fresh (Nat.le_refl _))
  · subst ex
    cases rx
    obtain ⟨its, rv, p, hz⟩ := I1.tuple hq
    refine wpAny_pyIter_tuple (show s1.heap.IsTuple a its.toArray from p) ?_
    refine ⟨s1.heap.objs.size, [s1.heap.objs.size], _, _, H1, rfl, I1.kept (t' := s1.toks) fun b o e => Heap.get?_push_of_some _ e, turn_tuple a _, ⟨_, Heap.get?_push_size _ rfl, rfl, rfl⟩, fun b hb => ?_, q⟩
    have e : b = s1.heap.objs.size := by simpa using hb
    subst e
    exact I1.fpOk (Nat.le_refl _) (I1.hok.fresh (Nat.le_refl _))
  · subst ex
    obtain ⟨t, rfl⟩ := rx
    cases ha : z.cps.all (· < 128)
    · exact wpAny_pyIter_wide ha (pi_one (tk := s1.toks) I1 _ (turn_str _ z t "str_iterator" (.inr rfl)) ⟨_, Heap.get?_push_size _ rfl, rfl, rfl⟩ q)
    · exact wpAny_pyIter_ascii ha (pi_one (tk := s1.toks) I1 _ (turn_str _ z t "str_ascii_iterator" (.inl rfl)) ⟨_, Heap.get?_push_size _ rfl, rfl, rfl⟩ q)
  · subst ex
    obtain rfl : u = Value.ref d := rx
    obtain ⟨hs, hgd, hx, es, ep, vs, hdt, hsz, kv, hm⟩ := I1.frzK hd
    refine iter_keys hs hgd hx hdt (pi_one (tk := s1.toks) I1 _ (turn_keys _ hdt) ⟨_, Heap.get?_push_size _ rfl, rfl, ?_⟩ q)
    rw [hsz] <;> rfl
  · subst ex
    obtain rfl : u = Value.ref d := rx
    obtain ⟨o, I2⟩ := I1.lock hd (by first | trivial | exact fun _ z => nomatch z | simp [Mut])
    have hd2 : upd H1 d (.frz o (.dK ks)) d = some (.frz o (.dK ks)) := upd_same
    obtain ⟨hs, hgd, hx, es, ep, vs, hdt, hsz, kv, hm⟩ := I2.frzK hd2
    refine iter_keys hs hgd hx hdt (pi_one (tk := s1.toks) I2 _ (turn_keys _ hdt) ⟨_, Heap.get?_push_size _ rfl, rfl, ?_⟩ (q o))
    rw [hsz] <;> rfl
variable {T : Tab} {F : Nat → List PV → Mem → R PV} {W : WX}
theorem PI.imp {wi wi' : TI} (h : PI X tg e wi) (i : ∀ σ H R, wi' σ H R → wi σ H R) : PI X tg e wi' := ⟨fun pins s σ H R I hw => h.run pins s σ H R I (i _ _ _ hw)⟩
theorem i_over {a : E} (ha : PE X e (rdE X.K T F W a)) : PI X tg e (rdI X.K T F W (.over a)) := PI.imp (pi_over ha) fun σ H R ⟨ρ, μ, ps, hm, hs, o⟩ => ⟨ρ, μ, ps, hm, hs, by
  simp only [evI] at o
  refine (outG_bind o).imp fun x H1 ⟨ρ1, μ1, p, s1, m1, r1, o1⟩ => ?_
  simp only [HP.R.opt] at o1
  cases hj : itOver μ1 p with
  | none => rw [hj] at o1; exact o1.elim
  | some jt =>
    rw [hj] at o1
    have q := o1 ρ1 H1 .refl m1
    cases r1 with
    | tup n e d r =>
      cases hj
      exact .inr (.inl ⟨_, rfl, ⟨_, frT e⟩, q ρ1 H1 _ .refl m1 (.tup (.tup n e d r) rfl)⟩)
    | lst n e r =>
      cases hj
      exact .inl ⟨_, rfl, ⟨_, .inl (.inl e)⟩, q ρ1 H1 _ .refl m1 (.lst (.lst n e r) rfl)⟩
    | scr n e =>
      cases hj
      exact .inl ⟨_, rfl, ⟨_, .inl e⟩, q ρ1 H1 _ .refl m1 (.scr (.scr n e) rfl)⟩
    | scrK h =>
      cases hj
      exact .inl ⟨_, rfl, ⟨_, .inr h⟩, q ρ1 H1 _ .refl m1 (.scr (.scrK h) rfl)⟩
    | str z =>
      cases hj
      exact .inr (.inr (.inl ⟨_, rfl, q ρ1 H1 _ .refl m1 (.str rfl)⟩))
    | dct n e r =>
      cases hj
      rcases e with e | ⟨o, e⟩
      · refine .inr (.inr (.inr (.inr ⟨_, _, rfl, e, fun ob => ?_⟩)))
        exact q ρ1 _ _ (step_freeze n e) (m1.freeze n e) (.keys upd_same (r.step (step_freeze n e)) rfl)
      · exact .inr (.inr (.inr (.inl ⟨_, _, _, rfl, e, q ρ1 H1 _ .refl m1 (.keys e r rfl)⟩)))
    | @ref n a ea =>
      obtain ⟨mo, e2, mr⟩ := m1.all _ _ ea
      simp only [itOver, e2] at hj
      cases mr with
      | lst h1 h2 =>
        cases hj
        exact .inl ⟨_, rfl, ⟨_, .inl (.inl h1)⟩, q ρ1 H1 _ .refl m1 (.live ea)⟩
      | dct h1 h2 => cases hj
      | lck h1 h2 =>
        cases hj
        exact .inr (.inr (.inr (.inl ⟨_, _, _, rfl, h1, q ρ1 H1 _ .refl m1 (.keys h1 h2 rfl)⟩)))
    | _ => cases hj⟩
theorem rngOk_of {j : Int} (h : rngOk j = true) : -(2 ^ 62) ≤ j ∧ j < 2 ^ 62 := by
  simp only [rngOk, Bool.and_eq_true] at h
  have h1 := of_decide_eq_true h.1
  have h2 := of_decide_eq_true h.2
  exact ⟨by omega, by omega⟩
theorem i_rng1 {a : E} {ea : Expr} {p pos : Pos} (hg : Gl X "range") (hm : X.mg "range" = none) (ha : PE X ea (rdE X.K T F W a)) (hs : starEach [ea] X.env = (false, eval ea X.env) :: starEach [] X.env) : PI X tg (.Call (.Name "range" p) [ea] [] pos) (rdI X.K T F W (.rng1 a)) :=
  PI.imp (pi_range1 hg hm (pa_cons ha pa_nil hs) hs) fun σ H R ⟨ρ, μ, ps, hm, hs, o⟩ => ⟨ρ, μ, ps, hm, hs, by
    simp only [evI] at o
    refine (outG_bind o).imp fun x H1 ⟨ρ1, μ1, p, s1, m1, r1, o1⟩ => ?_
    split at o1
    · rename_i j
      split at o1
      · rename_i c
        cases r1
        obtain ⟨b1, b2⟩ := rngOk_of c
        exact ⟨j, rfl, b1, b2, o1 ρ1 H1 .refl m1 ρ1 H1 _ .refl m1 (.rng (by simp) (by simp))⟩
      · exact o1.elim
    · exact o1.elim⟩
theorem i_rng2 {a b : E} {ea eb : Expr} {p pos : Pos} (hg : Gl X "range") (hm : X.mg "range" = none) (ha : PE X ea (rdE X.K T F W a)) (hb : PE X eb (rdE X.K T F W b)) (hs2 : starEach [eb] X.env = (false, eval eb X.env) :: starEach [] X.env) (hs : starEach [ea, eb] X.env = (false, eval ea X.env) :: starEach [eb] X.env) :
    PI X tg (.Call (.Name "range" p) [ea, eb] [] pos) (rdI X.K T F W (.rng2 a b)) :=
  PI.imp (pi_range2 hg hm (pa_cons ha (pa_cons hb pa_nil hs2) hs) (hs.trans (by rw [hs2]; rfl)) hs2) fun σ H R ⟨ρ, μ, ps, hm, hs, o⟩ => ⟨ρ, μ, ps, hm, hs, by
    simp only [evI] at o
    refine (outG_bind o).imp fun x H1 ⟨ρ1, μ1, p, s1, m1, r1, o1⟩ => ?_
    refine ⟨ρ1, μ1, ps, m1, hs.step s1, (outG_bind o1).imp fun y H2 ⟨ρ2, μ2, q, s2, m2, r2, o2⟩ => ?_⟩
    cases r1 with
    | int i =>
      cases r2 with
      | int j =>
        simp only at o2
        split at o2
        · rename_i c
          simp only [Bool.and_eq_true] at c
          obtain ⟨b1, b2⟩ := rngOk_of c.1
          obtain ⟨b3, b4⟩ := rngOk_of c.2
          exact ⟨i, j, rfl, ⟨b1, b2, b3, b4⟩, o2 ρ2 H2 .refl m2 ρ2 H2 _ .refl m2 (.rng (by simp) (by simp))⟩
        · exact o2.elim
      | _ => exact o2.elim
    | _ => exact o2.elim⟩
theorem i_zip {a b : E} {ea eb : Expr} {elts : List Expr} {kk : Nat} {tpos p pos : Pos} (hg : Gl X "zip") (hm : X.mg "zip" = none) (ha : PE X ea (rdE X.K T F W a)) (hb : PE X eb (rdE X.K T F W b)) (hs2 : starEach [eb] X.env = (false, eval eb X.env) :: starEach [] X.env) (hs : starEach [ea, eb] X.env = (false, eval ea X.env) :: starEach [eb] X.env) :
    PI X (.Tuple elts kk tpos) (.Call (.Name "zip" p) [ea, eb] [] pos) (rdI X.K T F W (.zip a b)) :=
  PI.imp (RZ.pi_zipA hg hm (pa_cons ha (pa_cons hb pa_nil hs2) hs) hs (by rw [hs2]; rfl)) fun σ H R ⟨ρ, μ, ps, hm, hs, o⟩ => ⟨ρ, μ, ps, hm, hs, by
    simp only [evI] at o
    refine (outG_bind o).imp fun x H1 ⟨ρ1, μ1, p, s1, m1, r1, o1⟩ => ?_
    refine ⟨ρ1, μ1, ps, m1, hs.step s1, (outG_bind o1).imp fun y H2 ⟨ρ2, μ2, q, s2, m2, r2, o2⟩ => ?_⟩
    have r1 := r1.step s2
    split at o2
    · rename_i xs ys
      cases r1 with
      | lst n1 e1 l1 =>
        cases r2 with
        | lst n2 e2 l2 =>
          exact ⟨_, _, _, _, rfl, .inl ⟨.inl (.inl e1), .inl (.inl e2), o2 ρ2 H2 .refl m2 ρ2 H2 _ .refl m2 (.zip (.lst n1 e1 l1) (.lst n2 e2 l2) rfl rfl)⟩⟩
    · rename_i xs ys
      cases r1 with
      | tup n1 e1 d1 l1 =>
        cases r2 with
        | tup n2 e2 d2 l2 =>
          exact ⟨_, _, _, _, rfl, .inr ⟨frT e1, frT e2, o2 ρ2 H2 .refl m2 ρ2 H2 _ .refl m2 (.zipT (.tup n1 e1 d1 l1) (.tup n2 e2 d2 l2) rfl rfl)⟩⟩
    · exact o2.elim⟩
end
end HP
set_option Elab.async false
set_option linter.all false
set_option maxRecDepth 100000
set_option maxHeartbeats 4000000
namespace HP
open PySem PySem.Spec PyProof.Rows L2

/-! ### a list in the making -/
section
variable {K : PySem.W.Frag} {ρ ρ' ρ0 : Rho} {H H' H0 : Hp} {D : Addr} {μ : Mem}
theorem not_hide {a : Addr} (n : a ∉ ρ.all) (z : a ≠ D) : a ∉ (ρ.hide D).all := by
  obtain ⟨h1, h2⟩ := Rho.not_all.mp n
  refine Rho.not_all.mpr ⟨h1, ?_⟩
  simp only [Rho.hide, List.mem_cons, not_or]
  exact ⟨z, h2⟩
mutual
theorem Rep.hide {o : HO} (hD : H D = none) : ∀ {p : PV} {v : V}, Rep K ρ H p v → Rep K (ρ.hide D) (upd H D o) p v
  | _, _, .non => .non
  | _, _, .bl b => .bl b
  | _, _, .int i => .int i
  | _, _, .str x => .str x
  | _, _, .tup n e d r => .tup (not_hide n (ne_of_none e hD)) ((upd_ne (ne_of_none e hD)).trans e) d (RepL.hide hD r)
  | _, _, .lst n e r => .lst (not_hide n (ne_of_none e hD)) ((upd_ne (ne_of_none e hD)).trans e) (RepL.hide hD r)
  | _, _, .dct n e r => .dct (e.elim (fun e => not_hide n (ne_of_none e hD)) fun ⟨_, e⟩ => not_hide n (ne_of_none e hD)) (e.elim (fun e => .inl ((upd_ne (ne_of_none e hD)).trans e)) fun ⟨o, e⟩ => .inr ⟨o, (upd_ne (ne_of_none e hD)).trans e⟩) (RepK.hide hD r)
  | _, _, .scr n e => .scr (e.elim (fun e => not_hide n (ne_of_none e hD)) fun ⟨_, e⟩ => not_hide n (ne_of_none e hD)) (e.elim (fun e => .inl ((upd_ne (ne_of_none e hD)).trans e)) fun ⟨o, e⟩ => .inr ⟨o, (upd_ne (ne_of_none e hD)).trans e⟩)
  | _, _, .scrK h => .scrK h
  | _, _, .ref e => .ref e
theorem RepL.hide {o : HO} (hD : H D = none) : ∀ {p : List PV} {v : List V}, RepL K ρ H p v → RepL K (ρ.hide D) (upd H D o) p v
  | _, _, .nil => .nil
  | _, _, .cons h r => .cons (Rep.hide hD h) (RepL.hide hD r)
theorem RepK.hide {o : HO} (hD : H D = none) : ∀ {p : List (PV × PV)} {v : List (Key × V)}, RepK K ρ H p v → RepK K (ρ.hide D) (upd H D o) p v
  | _, _, .nil => .nil
  | _, _, .cons e h r => .cons e (Rep.hide hD h) (RepK.hide hD r)
end
theorem StR.hide {o : HO} (hD : H D = none) : ∀ {ps : PSt} {vs : L2.St}, StR K ρ H ps vs → StR K (ρ.hide D) (upd H D o) ps vs
  | _, _, .nil => .nil
  | _, _, .no r => .no (StR.hide hD r)
  | _, _, .so h r => .so (h.hide hD) (StR.hide hD r)
theorem StR.poke {o : HO} (hD : D ∈ ρ.hid) (hs : D ∉ ρ.st) : ∀ {ps : PSt} {vs : L2.St}, StR K ρ H ps vs → StR K ρ (upd H D o) ps vs
  | _, _, .nil => .nil
  | _, _, .no r => .no (StR.poke hD hs r)
  | _, _, .so h r => .so (h.poke hD hs) (StR.poke hD hs r)
theorem MemOk.hide {o : HO} (m : MemOk K ρ H μ) (hD : H D = none) : MemOk K (ρ.hide D) (upd H D o) μ := by
  refine ⟨m.nd, m.len, fun i a e => ?_, fun a ha => ?_⟩
  · obtain ⟨mo, e1, r⟩ := m.all i a e
    obtain ⟨u, eu⟩ := r.isSome
    have ne : upd H D o a = H a := upd_ne (ne_of_none eu hD)
    refine ⟨mo, e1, ?_⟩
    cases r with
    | lst x r => exact .lst (ne.trans x) (r.hide hD)
    | dct x r => exact .dct (ne.trans x) (r.hide hD)
    | lck x r => exact .lck (ne.trans x) (r.hide hD)
  · rcases List.mem_cons.mp ha with rfl | ha
    · have n : a ∉ ρ.st := Rho.not_st (m.notin hD)
      exact ⟨n, _, upd_same⟩
    · obtain ⟨n, u, eu⟩ := m.hid a ha
      exact ⟨n, u, by rw [upd_ne (ne_of_none eu hD)]; exact eu⟩
theorem ItR.hide {o : HO} (hD : H D = none) {jt : IT} {J : It} {i : Nat} (r : ItR K ρ H jt J i) : ItR K (ρ.hide D) (upd H D o) jt J i := by
  cases r with
  | lst r e => exact .lst (r.hide hD) e
  | scr r e => exact .scr (r.hide hD) e
  | tup r e => exact .tup (r.hide hD) e
  | str e => exact .str e
  | keys h r e => exact .keys ((upd_ne (ne_of_none h hD)).trans h) (r.hide hD) e
  | live e => exact .live e
  | rng e1 e2 => exact .rng e1 e2
  | enu r e => exact .enu (r.hide hD) e
  | enuT r e hi => exact .enuT (r.hide hD) e hi
  | zip r r2 e e2 => exact .zip (r.hide hD) (r2.hide hD) e e2
  | zipT r r2 e e2 => exact .zipT (r.hide hD) (r2.hide hD) e e2
theorem ItR.poke {o : HO} (hD : D ∈ ρ.hid) (hs : D ∉ ρ.st) (nf : ∀ o u, H D ≠ some (.frz o u)) {jt : IT} {J : It} {i : Nat} (r : ItR K ρ H jt J i) : ItR K ρ (upd H D o) jt J i := by
  cases r with
  | lst r e => exact .lst (r.poke hD hs) e
  | scr r e => exact .scr (r.poke hD hs) e
  | tup r e => exact .tup (r.poke hD hs) e
  | str e => exact .str e
  | keys h r e => exact .keys ((upd_ne (fun z => nf _ _ (by rw [← z]; exact h))).trans h) (r.poke hD hs) e
  | live e => exact .live e
  | rng e1 e2 => exact .rng e1 e2
  | enu r e => exact .enu (r.poke hD hs) e
  | enuT r e hi => exact .enuT (r.poke hD hs) e hi
  | zip r r2 e e2 => exact .zip (r.poke hD hs) (r2.poke hD hs) e e2
  | zipT r r2 e e2 => exact .zipT (r.poke hD hs) (r2.poke hD hs) e e2
structure Hid (ρ0 : Rho) (H0 : Hp) (D : Addr) (ρ : Rho) (H : Hp) : Prop where
  nd : H0 D = none
  nh : D ∉ ρ0.hid
  st : Step ρ0 H0 ⟨ρ.st, ρ0.hid⟩ H
  hid : ρ.hid = D :: ρ0.hid
theorem Hid.mem (h : Hid ρ0 H0 D ρ H) : D ∈ ρ.hid := by rw [h.hid]; exact List.mem_cons_self
theorem Hid.start {o : HO} (m : MemOk K ρ0 H0 μ) (hD : H0 D = none) : Hid ρ0 H0 D (ρ0.hide D) (upd H0 D o) :=
  ⟨hD, (Rho.not_all.mp (m.notin hD)).2, step_new hD, rfl⟩
theorem Step.unhide (s : Step ρ H ρ' H') {hd : List Addr} (hs : ∀ a ∈ hd, a ∈ ρ.hid) : Step ⟨ρ.st, hd⟩ H ⟨ρ'.st, hd⟩ H' := by
  refine ⟨s.pre, rfl, fun a o n e => ?_, s.frz⟩
  rcases s.keep a o n e with q | ⟨nh, q⟩
  · exact .inl q
  · exact .inr ⟨fun z => nh (hs a z), q⟩
theorem Hid.inner (h : Hid ρ0 H0 D ρ H) (s : Step ρ H ρ' H') : Hid ρ0 H0 D ρ' H' :=
  ⟨h.nd, h.nh, h.st.trans (s.unhide fun a ha => by rw [h.hid]; exact List.mem_cons_of_mem _ ha), s.hid.trans h.hid⟩
theorem Hid.poke {o : HO} (h : Hid ρ0 H0 D ρ H) : Hid ρ0 H0 D ρ (upd H D o) := by
  refine ⟨h.nd, h.nh, ⟨h.st.pre, rfl, fun a u n e => ?_, fun a o' u e => ?_⟩, h.hid⟩
  · rw [upd_ne (ne_of_none e h.nd)]; exact h.st.keep a u n e
  · rw [upd_ne (ne_of_none e h.nd)]; exact h.st.frz a o' u e
/-- what stands at the list in the making stays -/
theorem hid_keep (m : MemOk K ρ H μ) (hD : D ∈ ρ.hid) (s : Step ρ H ρ' H') {vs : List V} (e : H D = some (.lst vs)) : H' D = some (.lst vs) :=
  s.keeps (m.hid D hD).1 e fun _ z => nomatch z
theorem MemOk.pushAt {mo : MO} (m : MemOk K ρ H μ) (hD : D ∈ ρ.hid) {hd : List Addr} (hh : ∀ a ∈ hd, a ∈ ρ.hid) (hn : D ∉ hd) (h : MRep K ⟨ρ.st ++ [D], hd⟩ H mo D) : MemOk K ⟨ρ.st ++ [D], hd⟩ H (μ ++ [mo]) := by
  have hs := (m.hid D hD).1
  have h1 : ∀ a, a ∉ ρ.all → a ∉ (⟨ρ.st ++ [D], hd⟩ : Rho).all := fun a n => by
    obtain ⟨n1, n2⟩ := Rho.not_all.mp n
    refine Rho.not_all.mpr ⟨fun z => ?_, fun z => n2 (hh a z)⟩
    rcases List.mem_append.mp z with z | z
    · exact n1 z
    · rw [List.mem_singleton.mp z] at n2; exact n2 hD
  have h2 : ∀ (n : Nat) (a : Addr), ρ.st[n]? = some a → (ρ.st ++ [D])[n]? = some a := fun n a e => by
    rw [List.getElem?_append_left (List.getElem?_eq_some_iff.mp e).1]; exact e
  refine ⟨?_, by simp [m.len], fun i a e => ?_, fun a ha => ?_⟩
  · show (ρ.st ++ [D]).Nodup
    rw [List.nodup_append]
    refine ⟨m.nd, by simp, fun a ha b hb => ?_⟩
    rw [List.mem_singleton.mp hb]
    intro z; subst z; exact hs ha
  · have e : (ρ.st ++ [D])[i]? = some a := e
    by_cases hi : i < ρ.st.length
    · rw [List.getElem?_append_left hi] at e
      obtain ⟨mo', e1, r⟩ := m.all i a e
      refine ⟨mo', ?_, ?_⟩
      · rw [List.getElem?_append_left (by rw [← m.len]; exact hi)]; exact e1
      · cases r with
        | lst x r => exact .lst x (r.reall h1 h2)
        | dct x r => exact .dct x (r.reall h1 h2)
        | lck x r => exact .lck x (r.reall h1 h2)
    · have hi' : ρ.st.length ≤ i := Nat.le_of_not_lt hi
      rw [List.getElem?_append_right hi'] at e
      have h0 : i - ρ.st.length = 0 := by
        have h2 := (List.getElem?_eq_some_iff.mp e).1
        simp at h2; omega
      rw [h0] at e
      have ea : D = a := by simpa using e
      subst ea
      refine ⟨mo, ?_, h⟩
      rw [List.getElem?_append_right (by rw [← m.len]; exact hi'), ← m.len, h0]; rfl
  · obtain ⟨n, u, eu⟩ := m.hid a (hh a ha)
    refine ⟨fun z => ?_, u, eu⟩
    rcases List.mem_append.mp z with z | z
    · exact n z
    · rw [List.mem_singleton.mp z] at ha; exact hn ha
/-- the list is made: it is told -/
theorem Hid.fin {xs : List PV} {vs : List V} {m : Bool} {Q : VK} {W : Nat → Option Addr → Hp → Prop} {att : Nat → Str} (h : Hid ρ0 H0 D ρ H) (hm : MemOk K ρ H μ) (e : H D = some (.lst vs)) (r : RepL K ρ H xs vs)
    (o : Out K ρ0 H0 (newL m xs μ) Q W att) : Q (.ref D) H := by
  have hs := (hm.hid D h.mem).1
  have hh : ∀ a ∈ ρ0.hid, a ∈ ρ.hid := fun a ha => by rw [h.hid]; exact List.mem_cons_of_mem _ ha
  cases m with
  | false =>
    have h1 : ∀ a, a ∉ ρ.all → a ∉ (⟨ρ.st, ρ0.hid⟩ : Rho).all := fun a n => by
      obtain ⟨n1, n2⟩ := Rho.not_all.mp n
      exact Rho.not_all.mpr ⟨n1, fun z => n2 (hh a z)⟩
    exact o ⟨ρ.st, ρ0.hid⟩ H _ h.st (hm.reall h1 rfl fun a ha => hm.hid a (hh a ha)) (.lst (Rho.not_all.mpr ⟨hs, h.nh⟩) e (r.reall h1 fun n a e => e))
  | true =>
    have h1 : ∀ a, a ∉ ρ.all → a ∉ (⟨ρ.st ++ [D], ρ0.hid⟩ : Rho).all := fun a n => by
      obtain ⟨n1, n2⟩ := Rho.not_all.mp n
      refine Rho.not_all.mpr ⟨fun z => ?_, fun z => n2 (hh a z)⟩
      rcases List.mem_append.mp z with z | z
      · exact n1 z
      · rw [List.mem_singleton.mp z] at n2; exact n2 h.mem
    have h2 : ∀ (n : Nat) (a : Addr), ρ.st[n]? = some a → (ρ.st ++ [D])[n]? = some a := fun n a e => by
      rw [List.getElem?_append_left (List.getElem?_eq_some_iff.mp e).1]; exact e
    refine o ⟨ρ.st ++ [D], ρ0.hid⟩ H _ ⟨?_, rfl, h.st.keep, h.st.frz⟩ (hm.pushAt h.mem hh h.nh (.lst e (r.reall h1 h2))) (.ref ?_)
    · obtain ⟨new, e1, h3⟩ := h.st.pre
      refine ⟨new ++ [D], by rw [← List.append_assoc, ← e1], fun a ha n => ?_⟩
      rcases List.mem_append.mp ha with z | z
      · exact h3 a z n
      · rw [List.mem_singleton.mp z]; exact h.nd
    · show (ρ.st ++ [D])[μ.length]? = some D
      rw [← hm.len, List.getElem?_append_right (Nat.le_refl _)]; simp
end
section
variable {X : Cx} {T : Tab} {F : Nat → List PV → Mem → R PV}
/-- the body of a comprehension, in short form -/
def lcB (T : Tab) (F : Nat → List PV → Mem → R PV) (tg : TG) (cs : EL) (elt : E) (ps : PSt) (y : YV) (μ : Mem) : R (Option PV) :=
  match bindY tg y ps with
  | none => .bad
  | some σ' => (evAll T.G F cs σ' μ).bind fun b μ => if b then (evE T.G F elt σ' μ).bind fun q μ => .ok (some q) μ else .ok none μ
abbrev NW : WX := fun _ _ _ _ => False
theorem lc_loop {K : PySem.W.Frag} {tg : TG} {cs : EL} {elt : E} {vs : List Nat} {ρ1 : Rho} {H1 : Hp} {μ1 : Mem} {ps : PSt} {σ : L2.St} {jt : IT} {J : It} {Qd : Addr → Hp → Prop} (hid : ∀ i ∈ tg.ids, i ∈ vs)
    (hm : MemOk K ρ1 H1 μ1) (hs : StR K ρ1 H1 ps σ) (hj : ItR K ρ1 H1 jt J 0) {xsF : List PV} {μF : Mem} (hF : lcGo (lcB T F tg cs elt (wipeP ps vs)) big jt [] μ1 = .ok xsF μF)
    (hQ : ∀ D ρ H ws, Hid ρ1 H1 D ρ H → MemOk K ρ H μF → H D = some (.lst ws) → RepL K ρ H xsF ws → Qd D H) : ∀ D, H1 D = none →
    ∃ W' : Nat → Nat → Hp → Prop, (∃ m, W' 0 m (upd H1 D (.lst []))) ∧ ∀ i m H, W' i m H → (J.stop i H ∧ Qd D H) ∨ (J.go i H ∧ ∃ Nx : Hp → Prop, (∀ H', Nx H' → ∃ m', m' < m ∧ W' (i + 1) m' H') ∧ ∀ x H', J.yld i H x H' → gY K tg x (wipe σ vs) H' fun σ2 H2 => wipe σ2 vs = wipe σ vs ∧ rdC K T F NW cs σ2 H2 fun b H3 =>
      if b = true then rdE K T F NW elt σ2 H3 fun y H4 => ∃ acc, H4 D = some (.lst acc) ∧ acc.length < sizeLine ∧ Nx (upd H4 D (.lst (acc ++ [y]))) else Nx H3) := by
  intro D hD
  let W' : Nat → Nat → Hp → Prop := fun i m H => ∃ ρ μ it acc ws, Hid ρ1 H1 D ρ H ∧ MemOk K ρ H μ ∧ StR K ρ H ps σ ∧ ItR K ρ H it J i ∧ H D = some (.lst ws) ∧ RepL K ρ H acc.reverse ws ∧ acc.length + m ≤ big ∧ lcGo (lcB T F tg cs elt (wipeP ps vs)) m it acc μ = .ok xsF μF
  refine ⟨W', ⟨big, ρ1.hide D, μ1, jt, [], [], Hid.start hm hD, hm.hide hD, hs.hide hD, hj.hide hD, upd_same, .nil, by simp, hF⟩, ?_⟩
  rintro i m H ⟨ρ, μ, it, acc, ws, hh, hm, hs, hj, hw, hr, hl, hg⟩
  cases m with
  | zero => simp only [lcGo] at hg; cases hg
  | succ f =>
    simp only [lcGo] at hg
    cases hn : it.next μ with
    | none => rw [hn] at hg; cases hg
    | some o =>
      rw [hn] at hg
      cases o with
      | none =>
        simp only [R.ok.injEq] at hg
        obtain ⟨rfl, rfl⟩ := hg
        exact .inl ⟨hj.stop hm hn, hQ D ρ H ws hh hm hw hr⟩
      | some q =>
        obtain ⟨y, it'⟩ := q
        obtain ⟨hgo, hyld⟩ := hj.next hm hn
        refine .inr ⟨hgo, fun H' => ∃ m', m' < f + 1 ∧ W' (i + 1) m' H', fun _ h => h, fun x H' hy => ?_⟩
        obtain ⟨s1, m1, ry, j1⟩ := hyld x H' hy
        simp only at hg
        have hs1 := hs.step s1
        have hh1 := hh.inner s1
        have hr1 := hr.step s1
        have hw1 := hid_keep hm hh.mem s1 hw
        unfold lcB at hg
        cases hb : bindY tg y (wipeP ps vs) with
        | none => rw [hb] at hg; cases hg
        | some ps' =>
          rw [hb] at hg
          simp only at hg
          refine ⟨ρ, μ, wipeP ps vs, y, ps', m1, hs1.wipe vs, ry, hb, fun σ2 r2 sm => ⟨?_, ?_⟩⟩
          · rw [← wipe_same (sm.mono hid), wipe_wipe]
          · refine ⟨ρ, μ, ps', m1, r2, ?_⟩
            cases hc : evAll T.G F cs ps' μ with
            | bad => rw [hc] at hg; cases hg
            | exc c x' μ' => rw [hc] at hg; cases hg
            | ok b μ2 =>
              rw [hc] at hg
              simp only [HP.R.bind] at hg
              intro ρ2 H2 s2 m2
              have hs2 := hs1.step s2
              have hh2 := hh1.inner s2
              have hr2 := hr1.step s2
              have hw2 := hid_keep m1 hh1.mem s2 hw1
              have j2 := j1.step s2
              have r2' := r2.step s2
              cases b with
              | false =>
                simp only [Bool.false_eq_true, if_false] at hg ⊢
                exact ⟨f, Nat.lt_succ_self f, ρ2, μ2, it', acc, ws, hh2, m2, hs2, j2, hw2, hr2, by omega, hg⟩
              | true =>
                simp only [if_true] at hg ⊢
                refine ⟨ρ2, μ2, ps', m2, r2', ?_⟩
                cases he : evE T.G F elt ps' μ2 with
                | bad => rw [he] at hg; cases hg
                | exc c x' μ' => rw [he] at hg; cases hg
                | ok q μ3 =>
                  rw [he] at hg
                  simp only [HP.R.bind] at hg
                  intro ρ3 H3 v s3 m3 rq
                  have hh3 := hh2.inner s3
                  have hw3 := hid_keep m2 hh2.mem s3 hw2
                  have hsD := (m3.hid D hh3.mem).1
                  have hrl := hr2.step s3
                  have hle := hrl.length
                  rw [List.length_reverse] at hle
                  refine ⟨ws, hw3, by rw [big_eq]; omega, f, Nat.lt_succ_self f, ρ3, μ3, it', q :: acc, ws ++ [v], hh3.poke, m3.poke hh3.mem, (hs2.step s3).poke hh3.mem hsD, (j2.step s3).poke hh3.mem hsD (fun o u z => by rw [hw3] at z; cases z), upd_same, ?_, by simp; omega, hg⟩
                  rw [List.reverse_cons]
                  exact (hrl.append (.cons rq .nil)).poke hh3.mem hsD
end
end HP
set_option Elab.async false
set_option linter.all false
set_option maxRecDepth 100000
set_option maxHeartbeats 4000000
namespace HP
open PySem PySem.Spec PyProof.Rows L2

theorem R.bind_assoc {α β γ : Type} (r : HP.R α) (f : α → Mem → HP.R β) (g : β → Mem → HP.R γ) : (r.bind f).bind g = r.bind fun a μ => (f a μ).bind g := by
  cases r <;> rfl
theorem lcGo_ne {body : YV → Mem → HP.R (Option PV)} : ∀ (f : Nat) (it : IT) (acc : List PV) (μ : Mem) (c : Nat) (x : PV) (μ' : Mem), lcGo body f it acc μ ≠ .exc c x μ' := by
  intro f
  induction f with
  | zero => intro it acc μ c x μ' z; cases z
  | succ f ih =>
    intro it acc μ c x μ' z
    simp only [lcGo] at z
    split at z
    · cases z
    · cases z
    · split at z
      · exact ih _ _ _ _ _ _ z
      · exact ih _ _ _ _ _ _ z
      · cases z
section
variable {K : PySem.W.Frag} {ρ ρ' : Rho} {H H' : Hp} {d : Addr} {μ : Mem}
theorem upd_all {a : Addr} {o : HO} (hd : d ∈ ρ.all) (n : a ∉ ρ.all) : upd H d o a = H a := upd_ne fun z => n (by rw [z]; exact hd)
mutual
/-- what stands at a store's address is nothing to the other values -/
theorem Rep.pokeA {o : HO} (hD : d ∈ ρ.all) : ∀ {p : PV} {v : V}, Rep K ρ H p v → Rep K ρ (upd H d o) p v
  | _, _, .non => .non
  | _, _, .bl b => .bl b
  | _, _, .int i => .int i
  | _, _, .str x => .str x
  | _, _, .tup n e d r => .tup n ((upd_all hD n).trans e) d (RepL.pokeA hD r)
  | _, _, .lst n e r => .lst n ((upd_all hD n).trans e) (RepL.pokeA hD r)
  | _, _, .dct n e r => .dct n (e.elim (fun e => .inl ((upd_all hD n).trans e)) fun ⟨o, e⟩ => .inr ⟨o, (upd_all hD n).trans e⟩) (RepK.pokeA hD r)
  | _, _, .scr n e => .scr n (e.elim (fun e => .inl ((upd_all hD n).trans e)) fun ⟨o, e⟩ => .inr ⟨o, (upd_all hD n).trans e⟩)
  | _, _, .scrK h => .scrK h
  | _, _, .ref e => .ref e
theorem RepL.pokeA {o : HO} (hD : d ∈ ρ.all) : ∀ {p : List PV} {v : List V}, RepL K ρ H p v → RepL K ρ (upd H d o) p v
  | _, _, .nil => .nil
  | _, _, .cons h r => .cons (Rep.pokeA hD h) (RepL.pokeA hD r)
theorem RepK.pokeA {o : HO} (hD : d ∈ ρ.all) : ∀ {p : List (PV × PV)} {v : List (Key × V)}, RepK K ρ H p v → RepK K ρ (upd H d o) p v
  | _, _, .nil => .nil
  | _, _, .cons e h r => .cons e (Rep.pokeA hD h) (RepK.pokeA hD r)
end
theorem MRep.pokeA {o : HO} {mo : MO} {a : Addr} (hD : d ∈ ρ.all) (ne : a ≠ d) (r : MRep K ρ H mo a) : MRep K ρ (upd H d o) mo a := by
  cases r with
  | lst x r => exact .lst ((upd_ne ne).trans x) (r.pokeA hD)
  | dct x r => exact .dct ((upd_ne ne).trans x) (r.pokeA hD)
  | lck x r => exact .lck ((upd_ne ne).trans x) (r.pokeA hD)
theorem st_all {n : Nat} (h : ρ.st[n]? = some d) : d ∈ ρ.all := List.mem_append_left _ (List.mem_of_getElem? h)
/-- an object of the store is changed, whatever stood there -/
theorem MemOk.setA {n : Nat} {o : HO} {mo : MO} (m : MemOk K ρ H μ) (hp : ρ.st[n]? = some d) (h : MRep K ρ (upd H d o) mo d) : MemOk K ρ (upd H d o) (μ.set n mo) := by
  have hl : n < μ.length := by rw [← m.len]; exact (List.getElem?_eq_some_iff.mp hp).1
  refine ⟨m.nd, by rw [List.length_set]; exact m.len, fun i a e => ?_, fun a ha => ?_⟩
  · by_cases hi : i = n
    · subst hi
      rw [hp] at e; cases e
      exact ⟨mo, by rw [List.getElem?_set_self hl], h⟩
    · obtain ⟨mo', e1, r⟩ := m.all i a e
      have ne : a ≠ d := fun z => by
        subst z
        exact hi (nodup_at m.nd e hp)
      exact ⟨mo', by rw [List.getElem?_set_ne (fun z => hi z.symm)]; exact e1, r.pokeA (st_all hp) ne⟩
  · obtain ⟨n1, u, e⟩ := m.hid a ha
    have ne : a ≠ d := fun z => n1 (by rw [z]; exact List.mem_of_getElem? hp)
    exact ⟨n1, u, by rw [upd_ne ne]; exact e⟩
theorem step_unlock {od : Obj} {ks : List (Key × V)} (s : Step ρ (upd H d (.frz od (.dK ks))) ρ' H') (hd : d ∈ ρ.st) (e : H d = some (.dK ks)) : Step ρ H ρ' (upd H' d (.dK ks)) := by
  obtain ⟨new, e1, h1⟩ := s.pre
  refine ⟨⟨new, e1, fun a ha n => ?_⟩, s.hid, fun a o n ea => ?_, fun a o u ea => ?_⟩
  · have ne : a ≠ d := fun z => n (by rw [z]; exact hd)
    have := h1 a ha n
    rwa [upd_ne ne] at this
  · have ne : a ≠ d := fun z => n (by rw [z]; exact hd)
    rw [upd_ne ne]
    exact s.keep a o n (by rw [upd_ne ne]; exact ea)
  · have ne : a ≠ d := fun z => by rw [z, e] at ea; cases ea
    rw [upd_ne ne]
    exact s.frz a o u (by rw [upd_ne ne]; exact ea)
end
section
variable {X : Cx} {T : Tab} {F : Nat → List PV → Mem → HP.R PV} {W : WX}
/-- the loop of a comprehension, its iterator first -/
def lcR (T : Tab) (F : Nat → List PV → Mem → HP.R PV) (vs : List Nat) (tg : TG) (it : I) (cs : EL) (elt : E) (ps : PSt) (μ : Mem) : HP.R (List PV) :=
  (evI T.G F it ps μ).bind fun jt μ => lcGo (lcB T F tg cs elt (wipeP ps vs)) big jt [] μ
theorem ev_lc {m : Bool} {vs : List Nat} {tg : TG} {it : I} {cs : EL} {elt : E} {ps : PSt} {μ : Mem} : evE T.G F (.lc m vs tg it cs elt) ps μ =
    match lockQ it ps μ with
    | none => (lcR T F vs tg it cs elt ps μ).bind fun xs μ => newL m xs μ
    | some (n, kvs) => (unlock n (lcR T F vs tg it cs elt ps (μ.set n (.lck kvs)))).bind fun xs μ => newL m xs μ := by
  simp only [evE]
  rfl
/-- the reading of a comprehension from its loop's -/
theorem lc_tLc {K : PySem.W.Frag} {tg : TG} {it : I} {cs : EL} {elt : E} {vs : List Nat} {σ : L2.St} {H : Hp} {Q : VK} {ρ : Rho} {μ : Mem} {ps : PSt} (hid : ∀ i ∈ tg.ids, i ∈ vs) (hm : MemOk K ρ H μ) (hs : StR K ρ H ps σ)
    (o : OutG K ρ H (evI T.G F it ps μ) (fun jt μ1 ρ1 H1 => Step ρ H ρ1 H1 ∧ ∃ xsF μF, lcGo (lcB T F tg cs elt (wipeP ps vs)) big jt [] μ1 = .ok xsF μF ∧ ∀ ρ2 H2, Step ρ1 H1 ρ2 H2 → ∀ D ρ3 H3 ws, Hid ρ2 H2 D ρ3 H3 → MemOk K ρ3 H3 μF → H3 D = some (.lst ws) → RepL K ρ3 H3 xsF ws → Q (.ref D) H3) (WS W T σ) T.att) :
    tLc (rdI K T F W it) (gY K tg) (rdC K T F NW cs) (rdE K T F NW elt) vs σ H Q := by
  refine ⟨ρ, μ, ps, hm, hs, o.imp fun jt μ1 ρ1 H1 ⟨s1, xsF, μF, hF, hQ⟩ ρ2 H2 J s2 m2 hj => ?_⟩
  exact lc_loop (Qd := fun D H3 => Q (.ref D) H3) hid m2 (hs.step (s1.trans s2)) hj hF fun D ρ3 H3 ws h1 h2 h3 h4 => hQ ρ2 H2 s2 D ρ3 H3 ws h1 h2 h3 h4
theorem OutG.and {α : Type} {K : PySem.W.Frag} {ρ : Rho} {H : Hp} {r : HP.R α} {Q : α → Mem → Rho → Hp → Prop} {W : Nat → Option Addr → Hp → Prop} {att : Nat → Str} (o : OutG K ρ H r Q W att) : OutG K ρ H r (fun a μ' ρ' H' => Step ρ H ρ' H' ∧ MemOk K ρ' H' μ' ∧ Q a μ' ρ' H') W att := by
  cases r with
  | ok p μ => exact fun ρ2 H2 t m => ⟨t, m, o ρ2 H2 t m⟩
  | exc c x μ => exact o
  | bad => exact o
theorem lc_plain {K : PySem.W.Frag} {m : Bool} {tg : TG} {it : I} {cs : EL} {elt : E} {vs : List Nat} {σ : L2.St} {H : Hp} {Q : VK} {ρ : Rho} {μ : Mem} {ps : PSt} (hid : ∀ i ∈ tg.ids, i ∈ vs) (hm : MemOk K ρ H μ) (hs : StR K ρ H ps σ)
    (o : Out K ρ H ((lcR T F vs tg it cs elt ps μ).bind fun xs μ => newL m xs μ) Q (WS W T σ) T.att) : tLc (rdI K T F W it) (gY K tg) (rdC K T F NW cs) (rdE K T F NW elt) vs σ H Q := by
  rw [lcR, HP.R.bind_assoc] at o
  refine lc_tLc hid hm hs ((out_bindG o).imp fun jt μ1 ρ1 H1 ⟨s1, m1, o1⟩ => ⟨s1, ?_⟩)
  cases hF : lcGo (lcB T F tg cs elt (wipeP ps vs)) big jt [] μ1 with
  | bad => rw [hF] at o1; exact o1.elim
  | exc c x μ' => exact absurd hF (lcGo_ne _ _ _ _ _ _ _)
  | ok xsF μF =>
    rw [hF] at o1
    exact ⟨xsF, μF, rfl, fun ρ2 H2 s2 D ρ3 H3 ws h1 h2 h3 h4 => h1.fin h2 h3 h4 (Out.step s2 o1)⟩
theorem lock_inv {it : I} {ps : PSt} {μ : Mem} {n : Nat} {kvs : List (PV × PV)} (h : lockQ it ps μ = some (n, kvs)) : μ[n]? = some (.dct kvs) := by
  unfold lockQ at h
  split at h
  · split at h
    · split at h
      · rename_i e; cases h; exact e
      · cases h
    · cases h
  · cases h
theorem lc_locked {K : PySem.W.Frag} {m : Bool} {tg : TG} {it : I} {cs : EL} {elt : E} {vs : List Nat} {σ : L2.St} {H : Hp} {Q : VK} {ρ : Rho} {μ : Mem} {ps : PSt} {n : Nat} {kvs : List (PV × PV)} (hid : ∀ i ∈ tg.ids, i ∈ vs) (hm : MemOk K ρ H μ) (hs : StR K ρ H ps σ) (hk : μ[n]? = some (.dct kvs))
    (o : Out K ρ H ((unlock n (lcR T F vs tg it cs elt ps (μ.set n (.lck kvs)))).bind fun xs μ => newL m xs μ) Q (WS W T σ) T.att) :
    ∃ d u, H d = some u ∧ Mut (some u) ∧ ∀ od, tLc (rdI K T F NW it) (gY K tg) (rdC K T F NW cs) (rdE K T F NW elt) vs σ (upd H d (.frz od u)) fun v H' => H' d = some (.frz od u) ∧ Q v (upd H' d u) := by
  obtain ⟨d, hd⟩ : ∃ d, ρ.st[n]? = some d := by
    have hl : n < ρ.st.length := by rw [hm.len]; exact (List.getElem?_eq_some_iff.mp hk).1
    exact ⟨_, List.getElem?_eq_getElem hl⟩
  obtain ⟨mo, e1, mr⟩ := hm.all _ _ hd
  rw [hk] at e1; cases e1
  cases mr with
  | @dct _ _ ks he rk =>
    have hdm : d ∈ ρ.st := List.mem_of_getElem? hd
    refine ⟨d, .dK ks, he, by first | trivial | simp [Mut], fun od => ?_⟩
    have sl : Step ρ H ρ (upd H d (.frz od (.dK ks))) := step_set hdm fun o u z => by rw [he] at z; cases z
    have ml : MemOk K ρ (upd H d (.frz od (.dK ks))) (μ.set n (.lck kvs)) := hm.setA hd (.lck upd_same (rk.step sl))
    cases hr : lcR T F vs tg it cs elt ps (μ.set n (.lck kvs)) with
    | bad => rw [hr] at o; exact o.elim
    | exc c x μ' => rw [hr] at o; exact o.elim
    | ok xsF μF =>
      rw [hr] at o
      simp only [unlock] at o
      split at o
      · rename_i kvs' hk'
        simp only [HP.R.bind] at o
        rw [lcR] at hr
        refine lc_tLc hid ml (hs.step sl) ?_
        cases hi : evI T.G F it ps (μ.set n (.lck kvs)) with
        | bad => rw [hi] at hr; cases hr
        | exc c x μ' => rw [hi] at hr; cases hr
        | ok jt μ1 =>
          rw [hi] at hr
          intro ρ1 H1 s1 m1
          refine ⟨s1, xsF, μF, hr, fun ρ2 H2 s2 D ρ3 H3 ws h1 h2 h3 h4 => ?_⟩
          have s3 : Step ρ (upd H d (.frz od (.dK ks))) ⟨ρ3.st, ρ2.hid⟩ H3 := (s1.trans s2).trans h1.st
          have hf : H3 d = some (.frz od (.dK ks)) := s3.frz _ _ _ upd_same
          refine ⟨hf, ?_⟩
          have hd3 : ρ3.st[n]? = some d := s3.get hd
          have hdD : d ≠ D := fun z => by rw [z, h3] at hf; cases hf
          obtain ⟨mo, e1, mr⟩ := h2.all _ _ hd3
          rw [hk'] at e1; cases e1
          cases mr with
          | @lck _ o' _ ks' hf' rk' =>
            rw [hf] at hf'
            cases hf'
            have hh : ρ2.hid = ρ.hid := s2.hid.trans s1.hid
            have h1' : Hid ρ H D ρ3 (upd H3 d (.dK ks)) := by
              refine ⟨?_, by rw [← hh]; exact h1.nh, ?_, by rw [← hh]; exact h1.hid⟩
              · cases q : H D with
                | none => rfl
                | some u =>
                  have z : D ≠ d := fun z => hdD z.symm
                  have := (s1.trans s2)
                  by_cases hDs : D ∈ ρ.st
                  · have := h2.hid D h1.mem
                    obtain ⟨i, hi'⟩ := List.getElem?_of_mem hDs
                    have := List.mem_of_getElem? (s3.get hi')
                    exact absurd this (h2.hid D h1.mem).1
                  · obtain ⟨u', eu⟩ := this.isSome hDs (show upd H d (.frz od (.dK ks)) D = some u by rw [upd_ne z]; exact q)
                    rw [h1.nd] at eu; cases eu
              · rw [hh] at s3
                exact step_unlock s3 hdm he
            refine h1'.fin (h2.setA hd3 (.dct upd_same (rk'.pokeA (st_all hd3)))) (by rw [upd_ne (fun z => hdD z.symm)]; exact h3) (h4.pokeA (st_all hd3)) o
      · exact o.elim
theorem PE.or {e : Expr} {t t' : TE} (h : PE X e t) (h' : PE X e t') : PE X e (fun σ H Q => t σ H Q ∨ t' σ H Q) := ⟨fun pins s σ H Q I hw => hw.elim (h.run pins s σ H Q I) (h'.run pins s σ H Q I)⟩
theorem PS.or {e : Stmt} {t t' : TS} (h : PS X e t) (h' : PS X e t') : PS X e (fun D σ H => t D σ H ∨ t' D σ H) := ⟨fun pins s σ H D I hw => hw.elim (h.run pins s σ H D I) (h'.run pins s σ H D I)⟩
theorem PS.imp {e : Stmt} {t t' : TS} (h : PS X e t) (i : ∀ D σ H, t' D σ H → t D σ H) : PS X e t' := ⟨fun pins s σ H D I hw => h.run pins s σ H D I (i _ _ _ hw)⟩
/-- [elt for tg in iter if ..] -/
theorem s_lc {m : Bool} {vs : List Nat} {tg : TG} {it : I} {cs : EL} {elt : E} {etg ei eelt : Expr} {ifs : List Expr} {scope : Scope} {own : List (Str × Nat)} {pos : Pos} (hc : X.calm = true) (hN : X.N.Nodup) (hid : ∀ i ∈ tg.ids, i ∈ own.map (·.2)) (hvs : vs = own.map (·.2))
    (hi : PI X etg ei (rdI X.K T F W it)) (hi0 : PI X etg ei (rdI X.K T F NW it)) (ok : BlkOk X.N X.env.scope scope own)
    (hg : ∀ (s : Shared) (H : Hp) (C : Addr) (cl : List (Str × Addr)) (fp : List Addr), PG (X.blk s H scope (compEnvC scope cl C X.env) fp) etg (gY X.K tg))
    (ht : ∀ (s : Shared) (H : Hp) (C : Addr) (cl : List (Str × Addr)) (fp : List Addr), PTs (X.blk s H scope (compEnvC scope cl C X.env) fp) ifs (rdC X.K T F NW cs))
    (he : ∀ (s : Shared) (H : Hp) (C : Addr) (cl : List (Str × Addr)) (fp : List Addr), PE (X.blk s H scope (compEnvC scope cl C X.env) fp) eelt (rdE X.K T F NW elt)) (hs : ∀ x, foldedSetIterable ei X.env x = pure x) :
    PE X (.ListComp eelt [⟨etg, ei, ifs, 0⟩] scope pos) (rdE X.K T F W (.lc m vs tg it cs elt)) := by
  subst hvs
  refine PE.imp (PE.or (pe_lc hc hN hi ok hg ht he hs) (pe_lock (pe_lc hc hN hi0 ok hg ht he hs))) fun σ H Q ⟨ρ, μ, ps, hm, hs, o⟩ => ?_
  rw [ev_lc] at o
  split at o
  · exact .inl (lc_plain hid hm hs o)
  · rename_i n kvs hk
    exact .inr (lc_locked (W := W) hid hm hs (lock_inv hk) o)
/-- name = [..] where the name is stored within the comprehension -/
theorem s_setLc {i : Nat} {y : Str} {py : Pos} {m : Bool} {vs : List Nat} {tg : TG} {it : I} {cs : EL} {elt : E} {etg ei eelt : Expr} {ifs : List Expr} {scope : Scope} {own : List (Str × Nat)} {pos spos : Pos} (hc : X.calm = true) (hN : X.N.Nodup) (hy : X.N[i]? = some y) (hyl : X.env.scope.names.lookup y = some .local)
    (hsw : swapsWith (.ListComp eelt [⟨etg, ei, ifs, 0⟩] scope pos) (some (.Name y py)) spos.line X.env = pure true) (hid : ∀ i ∈ tg.ids, i ∈ own.map (·.2)) (hvs : vs = own.map (·.2))
    (hi : PI X etg ei (rdI X.K T F W it)) (hi0 : PI X etg ei (rdI X.K T F NW it)) (ok : BlkOk X.N X.env.scope scope own)
    (hg : ∀ (s : Shared) (H : Hp) (C : Addr) (cl : List (Str × Addr)) (fp : List Addr), PG (X.blk s H scope (compEnvC scope cl C X.env) fp) etg (gY X.K tg))
    (ht : ∀ (s : Shared) (H : Hp) (C : Addr) (cl : List (Str × Addr)) (fp : List Addr), PTs (X.blk s H scope (compEnvC scope cl C X.env) fp) ifs (rdC X.K T F NW cs))
    (he : ∀ (s : Shared) (H : Hp) (C : Addr) (cl : List (Str × Addr)) (fp : List Addr), PE (X.blk s H scope (compEnvC scope cl C X.env) fp) eelt (rdE X.K T F NW elt)) (hs : ∀ x, foldedSetIterable ei X.env x = pure x) :
    PS X (.Assign [.Name y py] (.ListComp eelt [⟨etg, ei, ifs, 0⟩] scope pos) spos) (fun D σ H => rdE X.K T F W (.lc m vs tg it cs elt) σ H fun v H' => D.nx (σ.set i (some v)) H') := by
  subst hvs
  refine PS.imp (PS.or (ps_setLc hc hN hy hyl hsw hi ok hg ht he hs) (ps_lock (ps_setLc hc hN hy hyl hsw hi0 ok hg ht he hs))) fun D σ H ⟨ρ, μ, ps, hm, hs, o⟩ => ?_
  rw [ev_lc] at o
  split at o
  · exact .inl (lc_plain hid hm hs o)
  · rename_i n kvs hk
    exact .inr (lc_locked (W := W) hid hm hs (lock_inv hk) o)
end
end HP
set_option Elab.async false
set_option linter.all false
set_option maxRecDepth 100000
set_option maxHeartbeats 4000000
namespace HP
open PySem PySem.Spec PyProof.Rows L2

section
variable {X : Cx} {T : Tab} {F : Nat → List PV → Mem → HP.R PV} {W : WX} {ρ : Rho} {H : Hp} {μ : Mem}
/-! ### methods -/
def rMq (K : PySem.W.Frag) (f : MF) (W : Nat → Option Addr → Hp → Prop) (att : Nat → Str) : V → List V → Hp → VK → Prop := fun x xs H Q => ∃ ρ μ p q y, xs = [y] ∧ MemOk K ρ H μ ∧ Rep K ρ H p x ∧ Rep K ρ H q y ∧ Out K ρ H (mthq f p q μ) Q W att
theorem mt_append' {W' : Nat → Option Addr → Hp → Prop} {att : Nat → Str} : MtR X "list.append" (rMq X.K .append W' att) := by
  intro pins s σ H x xs v us Q I rx rxs ⟨ρ, μ, p, q, y, ex, hm, hp, hq, o⟩
  simp only [mthq] at o
  split at o
  · rename_i n
    split at o
    · rename_i ys hn
      cases hp with
      | @ref _ a ea =>
        obtain ⟨mo, e1, mr⟩ := hm.all _ _ ea
        rw [hn] at e1; cases e1
        cases mr with
        | @lst _ _ vs he rl =>
          split at o
          · rename_i c
            refine mt_append pins s σ H (.ref a) xs v us Q I rx rxs ⟨a, vs, y, rfl, ex, he, ?_, ?_⟩
            · rw [big_eq, ← rl.length]; exact Nat.le_of_ble_eq_true c
            · have sl : Step ρ H ρ (upd H a (.lst (vs ++ [y]))) := step_set (List.mem_of_getElem? ea) fun o u z => by rw [he] at z; cases z
              exact o ρ _ _ sl (hm.setA ea (.lst upd_same ((rl.append (.cons hq .nil)).step sl))) .non
          · exact o.elim
    · exact o.elim
  · exact o.elim
theorem mt_index' (hu : X.A.units + 70 < cLine) {W' : Nat → Option Addr → Hp → Prop} {att : Nat → Str} : MtR X "list.index" (rMq X.K .index W' att) := by
  intro pins s σ H x xs v us Q I rx rxs ⟨ρ, μ, p, q, y, ex, hm, hp, hq, o⟩
  simp only [mthq] at o
  split at o
  · rename_i ys hy
    split at o
    · rename_i c
      simp only [Bool.and_eq_true] at c
      split at o
      · rename_i j hj
        obtain ⟨a, vs, rfl, hsq, rl⟩ := ls_r hm hp hy
        subst ex
        cases rx
        cases rxs with
        | cons ry rt =>
          rename_i uy ut
          cases rt
          obtain ⟨bs, r1⟩ := reads_of I _ _ _ c.1 hq ry
          obtain ⟨its, rv, ⟨⟨cls, dd, data, sls⟩, n, ho, hc, hdn, hdt⟩, hlen⟩ := I.list hsq
          simp only at hc hdt
          subst hc hdt
          obtain ⟨as, h4⟩ := reads_ofs I ys vs its c.2.1 rl rv
          have hpl := plain_ofs _ c.2.1
          have hroom : X.A.units + 1 + min (PyData.depthAll (toDs ys)) (toD q).depth < cLine := by
            have h1 := dep_of _ c.1
            have h2 := dep_ofs _ c.2.1
            have h3 := Nat.le_of_ble_eq_true c.2.2
            omega
          have hmap : its.map (SeqAt.readOf s.heap) = toDs ys := SeqAt.readsAll_map_plain _ _ _ hpl h4
          have hvl := rv.length
          have hrl := rl.length
          have hsl := sizeLine_eq
          have toDs_map : ∀ l : List PV, toDs l = l.map toD := fun l => by induction l with
            | nil => rfl
            | cons x l ih => simp [toDs, ih]
          obtain ⟨hjl, hjt, hjn⟩ := List.findIdx?_eq_some_iff_getElem.mp hj
          have hj' : j < its.toArray.size := by simp; omega
          have at_ : ∀ (m : Nat) (hm1 : m < its.toArray.size) (hm2 : m < ys.length), PyData.eqv (SeqAt.readOf s.heap its.toArray[m]) (toD q) = eqv ys[m] q := fun m hm1 hm2 => by
            have hml : m < its.length := by simpa using hm1
            have e1 : (its.map (SeqAt.readOf s.heap))[m]? = (toDs ys)[m]? := by rw [hmap]
            rw [toDs_map, List.getElem?_map, List.getElem?_map, List.getElem?_eq_getElem hml, List.getElem?_eq_getElem hm2] at e1
            have e2 : SeqAt.readOf s.heap its[m] = toD ys[m] := Option.some.inj e1
            have e3 : its.toArray[m] = its[m] := by simp
            rw [e3, e2]
            refine eqv_of _ _ ?_ c.1
            have : ∀ (l : List PV), cls l = true → ∀ x ∈ l, cl x = true := fun l => by induction l with
              | nil => intro _ x hx; cases hx
              | cons z l ih =>
                intro h x hx
                simp only [HP.cls, Bool.and_eq_true] at h
                rcases List.mem_cons.mp hx with rfl | hx
                · exact h.1
                · exact ih h.2 x hx
            exact this ys c.2.1 _ (List.getElem_mem _)
          refine call_meets PySem.F.slot_list_index ⟨_, ho, rfl⟩ PySem.F.entry_list_index (PySem.F.args_list_index_2 _ _)
            (SeqAt.list_indexAt a its.toArray n dd sls uy (fun u => PyData.eqv (SeqAt.readOf s.heap u) (toD q)) j hj' (by omega) ?_ ?_) ⟨ho, SeqAt.items_plain (vs := its.toArray) (show ReadsAll s.heap its.toArray.toList (toDs ys) as from h4) r1 hpl (plain_of _ c.1) hroom, ?_⟩
          · show PyData.eqv (SeqAt.readOf s.heap its.toArray[j]) (toD q) = true
            rw [at_ j hj' hjl]; exact hjt
          · intro m hm1 hmj
            show PyData.eqv (SeqAt.readOf s.heap its.toArray[m]) (toD q) = false
            rw [at_ m hm1 (by omega)]
            simpa using hjn m hmj
          · exact ⟨.int (j : Nat), H, I.tok _, ⟨_, rfl⟩, out_val hm (.int _) o⟩
      · exact o.elim
    · exact o.elim
  · exact o.elim
def MF.nm : MF → Str
  | .append => "append"
  | .index => "index"
theorem attr_no {o : Expr} {n : Str} {env : Env} (h : ∀ f p a k q, o ≠ .Call (.Name f p) a k q) (w : Sem Value) : attributeBase o n env w = w := by
  unfold attributeBase
  split
  · rename_i id pp pos
    exact absurd rfl (h _ _ _ _ _)
  · rfl
def notCall : Expr → Bool
  | .Call (.Name _ _) _ _ _ => false
  | _ => true
theorem attr_no' {o : Expr} {n : Str} {env : Env} (h : notCall o = true) (w : Sem Value) : attributeBase o n env w = w := attr_no (fun f p a k q z => by subst z; cases h) w
theorem MtR.ex {α : Sort _} {id : String} {r : α → V → List V → Hp → VK → Prop} (h : ∀ a, MtR X id (r a)) : MtR X id (fun x xs H Q => ∃ a, r a x xs H Q) := fun pins s σ H x xs v us Q I rx rs ⟨a, q⟩ => h a pins s σ H x xs v us Q I rx rs q
theorem s_mth {f : MF} {a b : E} {ea eb : Expr} {apos pos : Pos} (hu : X.A.units + 70 < cLine) (ha : PE X ea (rdE X.K T F W a)) (hb : PE X eb (rdE X.K T F W b)) (hbase : attributeBase ea f.nm X.env (eval ea X.env) = eval ea X.env)
    (hline : (apos.endLine == pos.line) = true) (hs : starEach [eb] X.env = (false, eval eb X.env) :: starEach [] X.env) : PE X (.Call (.Attribute ea f.nm apos) [eb] [] pos) (rdE X.K T F W (.mth f a b)) := by
  have hfew : ((backTo pos (starEach [eb] X.env)).all (fun x => !x.1) && (backToKw pos (keywordEach [] X.env)).all (fun x => x.1.isSome)
      && decide ([eb].length + ([] : List Keyword).length + (if ([] : List Keyword).isEmpty then 0 else 1) < 30)) = true := by rw [hs]; rfl
  have imp : ∀ {r : V → List V → Hp → VK → Prop}, r = (fun x xs H Q => ∃ W', rMq X.K f W' T.att x xs H Q) → ∀ σ H Q, rdE X.K T F W (.mth f a b) σ H Q → tBM X.K "list" r (rdE X.K T F W a) (tCons (rdE X.K T F W b) tNil) σ H Q := fun {r} er σ H Q ⟨ρ, μ, ps, hm, hs, o⟩ => by
    subst er
    refine ⟨ρ, μ, ps, hm, hs, ?_⟩
    simp only [evE] at o
    refine (out_bind o).imp fun x H1 ⟨ρ1, μ1, p, s1, m1, r1, o1⟩ => ?_
    split at o1
    · rename_i xs hx
      refine ⟨?_, ρ1, μ1, ps, m1, hs.step s1, (out_bind o1).imp fun y H2 ⟨ρ2, μ2, q, s2, m2, r2, o2⟩ => ⟨_, ρ2, μ2, p, q, y, rfl, m2, r1.step s2, r2, o2⟩⟩
      obtain ⟨a', vs, rfl, hsq, rl⟩ := ls_r m1 r1 hx
      exact .inl ⟨rfl, vs, hsq⟩
    · exact o1.elim
  cases f with
  | append => exact PE.imp (pe_bm PySem.F.plainAttrs_list PySem.F.slot_list_append PySem.F.type_list_append (MtR.ex fun W' => mt_append' (W' := W') (att := T.att)) ha (pa_cons hb pa_nil hs) hbase hfew hline hs rfl) (imp rfl)
  | index => exact PE.imp (pe_bm PySem.F.plainAttrs_list PySem.F.slot_list_index PySem.F.type_list_index (MtR.ex fun W' => mt_index' hu (W' := W') (att := T.att)) ha (pa_cons hb pa_nil hs) hbase hfew hline hs rfl) (imp rfl)
end
end HP
set_option Elab.async false
set_option linter.all false
set_option maxRecDepth 100000
set_option maxHeartbeats 4000000
namespace HP
open PySem PySem.Spec PyProof.Rows L2

/-- what a function of the text answers, by the short form -/
def spF (K : PySem.W.Frag) (T : Tab) (F : Nat → List PV → Mem → HP.R PV) (np j : Nat) : Sp := fun vs H Q E => vs.length = np ∧ ∃ ρ μ ps, MemOk K ρ H μ ∧ RepL K ρ H ps vs ∧ Out K ρ H (F j ps μ) Q (fun c dd H' => E (.ref (T.ca c)) dd H') T.att
def pickV {α : Type} (d : α) (n m : Nat) (xs ys : List α) (perm : List Nat) : List α := if xs.length = n ∧ ys.length = m then perm.map fun i => (xs ++ ys).getD i d else []
theorem pickV_rel {n m : Nat} {perm : List Nat} {vs : List V} {us : List Value} {zs : List V} {ws : List Value} (r : Vals vs us) (r2 : Vals zs ws) : Vals (pickV V.non n m vs zs perm) (pickV Value.none n m us ws perm) := by
  unfold pickV
  rw [r.length, r2.length]
  split
  · induction perm with
    | nil => exact .nil
    | cons i perm ih =>
      refine .cons ?_ ih
      show RelV ((vs ++ zs).getD i V.non) ((us ++ ws).getD i Value.none)
      rw [List.getD_eq_getElem?_getD, List.getD_eq_getElem?_getD]
      cases h : (vs ++ zs)[i]? with
      | none => rw [(r.append r2).none_of h]; rfl
      | some v =>
        obtain ⟨u, hu, hr⟩ := (r.append r2).get h
        rw [hu]; exact hr
  · exact .nil
/-- the function at that name -/
structure FnAt (X : Cx) (T : Tab) (F : Nat → List PV → Mem → HP.R PV) (k j : Nat) (x : Str) (kws : List (Nat × List Str × List Nat)) (f : Addr) (fd : FuncData) (ps : List Str) : Prop where
  mg : X.mg x = some (.ref f)
  kp : PySem.W.keepIn X.K (.ref f) = true
  bd : Binds X.K fd ps []
  ok : FnOk X.prog X.w X.K X.mg X.base (L2.CX X.prog X.w) k f fd ps (spF X.K T F ps.length j)
  ln : ∀ xs μ, xs.length ≠ ps.length → F j xs μ = .bad
  kw : ∀ n ks perm, (n, ks, perm) ∈ kws → KBinds X.K fd ps ks (fun us ws => pickV Value.none n ks.length us ws perm) (fun us ws => pickV V.non n ks.length us ws perm)
section
variable {X : Cx} {T : Tab} {F : Nat → List PV → Mem → HP.R PV} {W : WX} {k j : Nat} {f : Addr} {fd : FuncData} {ps : List Str} {x : Str} {kws : List (Nat × List Str × List Nat)}
theorem call_sp {ρ : Rho} {H : Hp} {μ : Mem} {xs : List PV} {vs : List V} {Q : VK} {σ : L2.St} (A : FnAt X T F k j x kws f fd ps) (hm : MemOk X.K ρ H μ) (r : RepL X.K ρ H xs vs) (o : Out X.K ρ H (F j xs μ) Q (WS W T σ) T.att) : spF X.K T F ps.length j vs H Q (WE W σ) := by
  refine ⟨?_, ρ, μ, xs, hm, r, o⟩
  rw [← r.length]
  refine Decidable.byContradiction fun z => ?_
  rw [A.ln _ _ z] at o
  exact o
theorem s_call {es : EL} {e : Expr} {ees : List Expr} {p pos : Pos} (A : FnAt X T F k j x kws f fd ps) (tk : Takes X W) (hr : Room k X.A) (hg : Gl X x) (ha : PA X (e :: ees) (rdA X.K T F W es)) (hd : (x == ("__debug__" : Str)) = false) (hs : (e :: ees).all notStar = true) :
    PE X (.Call (.Name x p) (e :: ees) [] pos) (rdE X.K T F W (.call j es)) := by
  simp only [List.all_cons, Bool.and_eq_true] at hs
  refine PE.imp (pe_callS (E := WE W) A.ok hr hg A.mg A.kp A.bd (fun σ => passAt tk σ) ha hd (star_no hs.1) (stars_no hs.2)) fun σ H Q ⟨ρ, μ, ps, hm, hs, o⟩ => ⟨ρ, μ, ps, hm, hs, ?_⟩
  simp only [evE] at o
  exact (out_bindG o).imp fun xs μ1 ρ1 H1 ⟨s1, m1, o1⟩ vs rv => call_sp A m1 rv o1
theorem s_call0 {p pos : Pos} (A : FnAt X T F k j x kws f fd ps) (tk : Takes X W) (hr : Room k X.A) (hg : Gl X x) (hd : (x == ("__debug__" : Str)) = false) :
    PE X (.Call (.Name x p) [] [] pos) (rdE X.K T F W (.call j .nil)) := by
  refine ⟨fun pins s σ H Q I h => ?_⟩
  refine wpAny_Call_Name_kw (ld_glob I hg A.mg ?_ hd)
  refine PySem.W.callWith_K0 I.kIn A.kp (run_fnS (us := []) (vs := []) A.ok hr A.bd (passAt tk σ) I .nil ?_)
  obtain ⟨ρ, μ, ps, hm, hs, o⟩ := h
  simp only [evE, evEL] at o
  exact call_sp A hm .nil o
/-! by name -/
theorem pick_rep0 {K : PySem.W.Frag} {ρ : Rho} {H : Hp} : ∀ (perm : List Nat) {xs ys zs : List PV} {vs ws : List V}, RepL K ρ H xs vs → RepL K ρ H ys ws → pick (xs ++ ys) perm = some zs → RepL K ρ H zs (perm.map fun i => (vs ++ ws).getD i V.non) := by
  intro perm
  induction perm with
  | nil => intro xs ys zs vs ws r r2 e; cases e; exact .nil
  | cons i perm ih =>
    intro xs ys zs vs ws r r2 e
    simp only [pick] at e
    split at e
    · rename_i x hx
      cases h : pick (xs ++ ys) perm with
      | none => rw [h] at e; cases e
      | some z2 =>
        rw [h] at e
        cases e
        obtain ⟨v, hv, rx⟩ := (r.append r2).get hx
        refine .cons ?_ (ih r r2 h)
        show Rep K ρ H x ((vs ++ ws).getD i V.non)
        rw [List.getD_eq_getElem?_getD, hv]
        exact rx
    · cases e
theorem pick_rep {K : PySem.W.Frag} {ρ : Rho} {H : Hp} {n m : Nat} (perm : List Nat) {xs ys zs : List PV} {vs ws : List V} (r : RepL K ρ H xs vs) (r2 : RepL K ρ H ys ws) (hx : xs.length = n) (hy : ys.length = m) (e : pick (xs ++ ys) perm = some zs) : RepL K ρ H zs (pickV V.non n m vs ws perm) := by
  unfold pickV
  rw [if_pos ⟨r.length.symm.trans hx, r2.length.symm.trans hy⟩]
  exact pick_rep0 perm r r2 e
/-- a call by name, its exceptions read at the state -/
theorem run_kw {sp : Sp} {E : XK} {ks : List Str} {g : List Value → List Value → List Value} {gV : List V → List V → List V} {pins : List (Addr × Obj)} {σ : L2.St} {H : Hp} {s : Shared} {Q : VK} {us ws : List Value} {vs zs : List V}
    (O : FnOk X.prog X.w X.K X.mg X.base (L2.CX X.prog X.w) k f fd ps sp) (hr : Room k X.A) (hb : KBinds X.K fd ps ks g gV) (hx : PassesAt (L2.CX X.prog X.w) X σ E) (I : Inv X pins σ H s) (rp : Vals vs us) (rn : Vals zs ws) (h : sp (gV vs zs) H Q E) :
    wpAny (model X.prog X.w) X.A (call (.ref f) us (ks.zip ws)) (EP X pins σ Q) X.xe s := by
  have both := hb.rel rp rn
  have len : (g us ws).length = ps.length := both.length.symm.trans (O.len _ _ _ _ h)
  have run := O.run X.A X.stack s H ⟨us, ks.zip ws⟩ (g us ws) (gV vs zs) Q E hr I.env0 (hb.to s us ws I.kIn len) both h
  refine wpAny_call (codeAny_mono run fun r s' q => ?_)
  match r, q with
  | .error e, q => exact hx pins H s e s' I q
  | .ok (.ret u), q => exact I.after q
  | .ok .next, q => exact q.elim
  | .ok .brk, q => exact q.elim
  | .ok .cont, q => exact q.elim
def kwNames (kws : List Keyword) : Option (List Str) :=
  match kws with
  | [] => some []
  | ⟨some n, _, _⟩ :: r => (kwNames r).map (n :: ·)
  | _ :: _ => none
theorem kw_all : ∀ {kws : List Keyword} {ks : List Str} {env : Env} {pos : Pos}, kwNames kws = some ks → (backToKw pos (keywordEach kws env)).all (·.1.isSome) = true ∧ (backToKw pos (keywordEach kws env)).filterMap (·.1) = ks ∧ (backToKw pos (keywordEach kws env)).any (·.1.isNone) = false := by
  intro kws
  induction kws with
  | nil => intro ks env pos h; cases h; exact ⟨rfl, rfl, rfl⟩
  | cons kw kws ih =>
    intro ks env pos h
    obtain ⟨n, v, q⟩ := kw
    cases n with
    | none => cases h
    | some n =>
      simp only [kwNames] at h
      cases h2 : kwNames kws with
      | none => rw [h2] at h; cases h
      | some ks2 =>
        rw [h2] at h
        cases h
        obtain ⟨a, b, c⟩ := ih (env := env) (pos := pos) h2
        refine ⟨?_, ?_, ?_⟩
        · simpa [keywordEach, backToKw] using a
        · simpa [keywordEach, backToKw] using b
        · simpa [keywordEach, backToKw] using c
theorem k_nil : PK X [] (rdA X.K T F W .nil) := ⟨fun pos pins s σ H Q I ⟨ρ, μ, ps, hm, hs, o⟩ => pk_nil.run pos pins s σ H Q I (o ρ H .refl hm [] .nil)⟩
theorem k_cons {a : E} {r : EL} {ea : Expr} {nm : Option Str} {kpos : Pos} {es : List Keyword} (ha : PE X ea (rdE X.K T F W a)) (hr : PK X es (rdA X.K T F W r)) : PK X (⟨nm, ea, kpos⟩ :: es) (rdA X.K T F W (.cons a r)) :=
  ⟨fun pos pins s σ H Q I ⟨ρ, μ, ps, hm, hs, o⟩ => (pk_cons (nm := nm) (kpos := kpos) ha hr).run pos pins s σ H Q I ⟨ρ, μ, ps, hm, hs, by
    simp only [evEL] at o
    refine (outG_bind o).imp fun x H1 ⟨ρ1, μ1, p, s1, m1, r1, o1⟩ => ?_
    refine ⟨ρ1, μ1, ps, m1, hs.step s1, (outG_bindG o1).imp fun xs μ2 ρ2 H2 ⟨s2, m2, o2⟩ vs rv => ?_⟩
    exact o2 ρ2 H2 .refl m2 _ (.cons (r1.step s2) rv)⟩⟩
theorem kw_imp {es ks : EL} {perm : List Nat} {σ : L2.St} {H : Hp} {Q : VK} (A : FnAt X T F k j x kws f fd ps) (h : rdE X.K T F W (.callK j es ks perm) σ H Q) :
    rdA X.K T F W es σ H fun vs H1 => rdA X.K T F W ks σ H1 fun zs H2 => spF X.K T F ps.length j (pickV V.non es.len ks.len vs zs perm) H2 Q (WE W σ) := by
  obtain ⟨ρ, μ, ps, hm, hs, o⟩ := h
  simp only [evE] at o
  refine ⟨ρ, μ, ps, hm, hs, (out_bindG o).imp fun xs μ1 ρ1 H1 ⟨s1, m1, o1⟩ vs rv => ?_⟩
  refine ⟨ρ1, μ1, ps, m1, hs.step s1, (out_bindG o1).imp fun ys μ2 ρ2 H2 ⟨s2, m2, o2⟩ ws rw => ?_⟩
  split at o2
  · rename_i hl
    simp only [Bool.and_eq_true] at hl
    split at o2
    · rename_i zs hz
      exact call_sp A m2 (pick_rep perm (rv.step s2) rw (Nat.eq_of_beq_eq_true hl.1) (Nat.eq_of_beq_eq_true hl.2) hz) o2
    · exact o2.elim
  · exact o2.elim
theorem s_callK {es ks : EL} {perm : List Nat} {e : Expr} {ees : List Expr} {eks : List Keyword} {kn : List Str} {p pos : Pos} (A : FnAt X T F k j x kws f fd ps) (hin : (es.len, kn, perm) ∈ kws) (hkl : kn.length = ks.len) (tk : Takes X W) (hr : Room k X.A) (hg : Gl X x) (ha : PA X (e :: ees) (rdA X.K T F W es)) (hk : PK X eks (rdA X.K T F W ks)) (hn : kwNames eks = some kn)
    (hd : (x == ("__debug__" : Str)) = false) (hs : (e :: ees).all notStar = true) : PE X (.Call (.Name x p) (e :: ees) eks pos) (rdE X.K T F W (.callK j es ks perm)) := by
  obtain ⟨h1, h2, h3⟩ := kw_all (env := X.env) (pos := pos) hn
  have h4 := stars_no (env := X.env) (pos := pos) hs
  simp only [List.all_cons, Bool.and_eq_true] at hs
  refine ⟨fun pins s σ H Q I h => ?_⟩
  refine wpAny_Call_Name_kw (ld_glob I hg A.mg ?_ hd)
  refine PySem.W.callWith_KW (h₀ := X.base) I.ok.mod.kin A.kp h1 (thn (ha.run pos pins s σ H _ I (kw_imp A h)) fun us s1 ⟨vs, H1, I1, r, q⟩ => ?_) (by rw [h4, h3]; rfl) (star_no hs.1)
  refine thn (hk.run pos pins s1 σ H1 _ I1 q) fun ws s2 ⟨zs, H2, I2, rz, q2⟩ => ⟨I2.kIn, ?_⟩
  rw [h2]
  exact run_kw A.ok hr (A.kw _ _ _ hin) (passAt tk σ) I2 r rz (by rw [hkl]; exact q2)
theorem s_callK0 {ks : EL} {perm : List Nat} {eks : List Keyword} {kn : List Str} {p pos : Pos} (A : FnAt X T F k j x kws f fd ps) (hin : (0, kn, perm) ∈ kws) (hkl : kn.length = ks.len) (tk : Takes X W) (hr : Room k X.A) (hg : Gl X x) (hk : PK X eks (rdA X.K T F W ks)) (hn : kwNames eks = some kn)
    (hd : (x == ("__debug__" : Str)) = false) : PE X (.Call (.Name x p) [] eks pos) (rdE X.K T F W (.callK j .nil ks perm)) := by
  obtain ⟨h1, h2, h3⟩ := kw_all (env := X.env) (pos := pos) hn
  refine ⟨fun pins s σ H Q I h => ?_⟩
  refine wpAny_Call_Name_kw (ld_glob I hg A.mg ?_ hd)
  obtain ⟨ρ, μ, ps, hm, hs, o⟩ := kw_imp A h
  have h0 := o ρ H .refl hm [] .nil
  refine PySem.W.callWith_KW0 (h₀ := X.base) I.ok.mod.kin A.kp h1 ?_ (by rw [h3]; rfl)
  refine thn (hk.run pos pins s σ H _ I h0) fun ws s2 ⟨zs, H2, I2, rz, q2⟩ => ⟨I2.kIn, ?_⟩
  rw [h2]
  exact run_kw A.ok hr (A.kw _ _ _ hin) (passAt tk σ) I2 .nil rz (by rw [hkl]; exact q2)
end
end HP
set_option Elab.async false
set_option linter.all false
set_option maxRecDepth 100000
set_option maxHeartbeats 4000000
namespace HP
open PySem PySem.Spec PyProof.Rows L2

section
variable {X : Cx} {T : Tab} {F : Nat → List PV → Mem → HP.R PV} {W : WX}
/-- the loop of a comprehension from any moment on; Pv stands through it -/
theorem lc_in {K : PySem.W.Frag} {tg : TG} {cs : EL} {elt : E} {vs : List Nat} {ρ1 ρ0 : Rho} {H1 H0 : Hp} {D : Addr} {μ0 : Mem} {ps : PSt} {σ : L2.St} {jt : IT} {J : It} {Qd : Hp → Prop} {acc0 : List PV} {ws0 : List V} {f0 : Nat} {Pv : Rho → Hp → Prop}
    (hid : ∀ i ∈ tg.ids, i ∈ vs) (h0 : Hid ρ1 H1 D ρ0 H0) (m0 : MemOk K ρ0 H0 μ0) (s0 : StR K ρ0 H0 ps σ) (j0 : ItR K ρ0 H0 jt J 0) (w0 : H0 D = some (.lst ws0)) (r0 : RepL K ρ0 H0 acc0.reverse ws0) (l0 : acc0.length + f0 ≤ big) (p0 : Pv ρ0 H0)
    (hP : ∀ ρ H ρ' H', Pv ρ H → Step ρ H ρ' H' → Pv ρ' H') (hPo : ∀ ρ H o, Pv ρ H → D ∈ ρ.hid → D ∉ ρ.st → (∀ o u, H D ≠ some (.frz o u)) → Pv ρ (upd H D o))
    {xsF : List PV} {μF : Mem} (hF : lcGo (lcB T F tg cs elt (wipeP ps vs)) f0 jt acc0 μ0 = .ok xsF μF)
    (hQ : ∀ ρ H ws, Hid ρ1 H1 D ρ H → MemOk K ρ H μF → H D = some (.lst ws) → RepL K ρ H xsF ws → xsF.length ≤ big → Pv ρ H → Qd H) :
    ∃ W' : Nat → Nat → Hp → Prop, (∃ m, W' 0 m H0) ∧ ∀ i m H, W' i m H → (J.stop i H ∧ Qd H) ∨ (J.go i H ∧ ∃ Nx : Hp → Prop, (∀ H', Nx H' → ∃ m', m' < m ∧ W' (i + 1) m' H') ∧ ∀ x H', J.yld i H x H' → gY K tg x (wipe σ vs) H' fun σ2 H2 => wipe σ2 vs = wipe σ vs ∧ rdC K T F NW cs σ2 H2 fun b H3 =>
      if b = true then rdE K T F NW elt σ2 H3 fun y H4 => ∃ acc, H4 D = some (.lst acc) ∧ acc.length < sizeLine ∧ Nx (upd H4 D (.lst (acc ++ [y]))) else Nx H3) := by
  let W' : Nat → Nat → Hp → Prop := fun i m H => ∃ ρ μ it acc ws, Hid ρ1 H1 D ρ H ∧ MemOk K ρ H μ ∧ StR K ρ H ps σ ∧ ItR K ρ H it J i ∧ H D = some (.lst ws) ∧ RepL K ρ H acc.reverse ws ∧ acc.length + m ≤ big ∧ Pv ρ H ∧ lcGo (lcB T F tg cs elt (wipeP ps vs)) m it acc μ = .ok xsF μF
  refine ⟨W', ⟨f0, ρ0, μ0, jt, acc0, ws0, h0, m0, s0, j0, w0, r0, l0, p0, hF⟩, ?_⟩
  rintro i m H ⟨ρ, μ, it, acc, ws, hh, hm, hs, hj, hw, hr, hl, hp, hg⟩
  cases m with
  | zero => simp only [lcGo] at hg; cases hg
  | succ f =>
    simp only [lcGo] at hg
    cases hn : it.next μ with
    | none => rw [hn] at hg; cases hg
    | some o =>
      rw [hn] at hg
      cases o with
      | none =>
        simp only [R.ok.injEq] at hg
        obtain ⟨rfl, rfl⟩ := hg
        exact .inl ⟨hj.stop hm hn, hQ ρ H ws hh hm hw hr (by simp; omega) hp⟩
      | some q =>
        obtain ⟨y, it'⟩ := q
        obtain ⟨hgo, hyld⟩ := hj.next hm hn
        refine .inr ⟨hgo, fun H' => ∃ m', m' < f + 1 ∧ W' (i + 1) m' H', fun _ h => h, fun x H' hy => ?_⟩
        obtain ⟨s1, m1, ry, j1⟩ := hyld x H' hy
        simp only at hg
        have hs1 := hs.step s1
        have hh1 := hh.inner s1
        have hr1 := hr.step s1
        have hw1 := hid_keep hm hh.mem s1 hw
        have hp1 := hP _ _ _ _ hp s1
        unfold lcB at hg
        cases hb : bindY tg y (wipeP ps vs) with
        | none => rw [hb] at hg; cases hg
        | some ps' =>
          rw [hb] at hg
          simp only at hg
          refine ⟨ρ, μ, wipeP ps vs, y, ps', m1, hs1.wipe vs, ry, hb, fun σ2 r2 sm => ⟨?_, ?_⟩⟩
          · rw [← wipe_same (sm.mono hid), wipe_wipe]
          · refine ⟨ρ, μ, ps', m1, r2, ?_⟩
            cases hc : evAll T.G F cs ps' μ with
            | bad => rw [hc] at hg; cases hg
            | exc c x' μ' => rw [hc] at hg; cases hg
            | ok b μ2 =>
              rw [hc] at hg
              simp only [HP.R.bind] at hg
              intro ρ2 H2 s2 m2
              have hs2 := hs1.step s2
              have hh2 := hh1.inner s2
              have hr2 := hr1.step s2
              have hw2 := hid_keep m1 hh1.mem s2 hw1
              have hp2 := hP _ _ _ _ hp1 s2
              have j2 := j1.step s2
              have r2' := r2.step s2
              cases b with
              | false =>
                simp only [Bool.false_eq_true, if_false] at hg ⊢
                exact ⟨f, Nat.lt_succ_self f, ρ2, μ2, it', acc, ws, hh2, m2, hs2, j2, hw2, hr2, by omega, hp2, hg⟩
              | true =>
                simp only [if_true] at hg ⊢
                refine ⟨ρ2, μ2, ps', m2, r2', ?_⟩
                cases he : evE T.G F elt ps' μ2 with
                | bad => rw [he] at hg; cases hg
                | exc c x' μ' => rw [he] at hg; cases hg
                | ok q μ3 =>
                  rw [he] at hg
                  simp only [HP.R.bind] at hg
                  intro ρ3 H3 v s3 m3 rq
                  have hh3 := hh2.inner s3
                  have hw3 := hid_keep m2 hh2.mem s3 hw2
                  have hsD := (m3.hid D hh3.mem).1
                  have hrl := hr2.step s3
                  have hle := hrl.length
                  have nf : ∀ o u, H3 D ≠ some (.frz o u) := fun o u z => by rw [hw3] at z; cases z
                  rw [List.length_reverse] at hle
                  refine ⟨ws, hw3, by rw [big_eq]; omega, f, Nat.lt_succ_self f, ρ3, μ3, it', q :: acc, ws ++ [v], hh3.poke, m3.poke hh3.mem, (hs2.step s3).poke hh3.mem hsD, (j2.step s3).poke hh3.mem hsD nf, upd_same, ?_, by simp; omega, hPo _ _ _ (hP _ _ _ _ hp2 s3) hh3.mem hsD nf, hg⟩
                  rw [List.reverse_cons]
                  exact (hrl.append (.cons rq .nil)).poke hh3.mem hsD
/-- two clauses -/
def lc2B (T : Tab) (F : Nat → List PV → Mem → HP.R PV) (tg : TG) (cs : EL) (vs1 : List Nat) (tg1 : TG) (it1 : I) (cs1 : EL) (elt : E) (ps : PSt) (y : YV) (μ : Mem) : HP.R (Option (IT × (YV → Mem → HP.R (Option PV)))) :=
  match bindY tg y ps with
  | none => .bad
  | some σ' => (evAll T.G F cs σ' μ).bind fun b μ => if b then (evI T.G F it1 σ' μ).bind fun j1 μ => .ok (some (j1, lcB T F tg1 cs1 elt (wipeP σ' vs1))) μ else .ok none μ
theorem lc2_ne {its : YV → Mem → HP.R (Option (IT × (YV → Mem → HP.R (Option PV))))} : ∀ (f : Nat) (it : IT) (acc : List PV) (μ : Mem) (c : Nat) (x : PV) (μ' : Mem), lc2Go its f it acc μ ≠ .exc c x μ' := by
  intro f
  induction f with
  | zero => intro it acc μ c x μ' z; cases z
  | succ f ih =>
    intro it acc μ c x μ' z
    simp only [lc2Go] at z
    split at z
    · cases z
    · cases z
    · split at z
      · split at z
        · exact ih _ _ _ _ _ _ z
        · cases z
      · exact ih _ _ _ _ _ _ z
      · cases z
theorem lc2_loop {K : PySem.W.Frag} {tg tg1 : TG} {cs cs1 : EL} {it1 : I} {elt : E} {vs vs1 : List Nat} {ρ1 : Rho} {H1 : Hp} {μ1 : Mem} {ps : PSt} {σ : L2.St} {jt : IT} {J : It} {Qd : Addr → Hp → Prop} (hid : ∀ i ∈ tg.ids, i ∈ vs) (hid1 : ∀ i ∈ tg1.ids, i ∈ vs1)
    (hm : MemOk K ρ1 H1 μ1) (hs : StR K ρ1 H1 ps σ) (hj : ItR K ρ1 H1 jt J 0) {xsF : List PV} {μF : Mem} (hF : lc2Go (lc2B T F tg cs vs1 tg1 it1 cs1 elt (wipeP ps vs)) big jt [] μ1 = .ok xsF μF)
    (hQ : ∀ D ρ H ws, Hid ρ1 H1 D ρ H → MemOk K ρ H μF → H D = some (.lst ws) → RepL K ρ H xsF ws → Qd D H) : ∀ D, H1 D = none →
    ∃ W' : Nat → Nat → Hp → Prop, (∃ m, W' 0 m (upd H1 D (.lst []))) ∧ ∀ i m H, W' i m H → (J.stop i H ∧ Qd D H) ∨ (J.go i H ∧ ∃ Nx : Hp → Prop, (∀ H', Nx H' → ∃ m', m' < m ∧ W' (i + 1) m' H') ∧ ∀ x H', J.yld i H x H' → gY K tg x (wipe σ vs) H' fun σ2 H2 => wipe σ2 vs = wipe σ vs ∧ rdC K T F NW cs σ2 H2 fun b H3 =>
      if b = true then rdI K T F NW it1 σ2 H3 fun J1 H4 => ∃ W1 : Nat → Nat → Hp → Prop, (∃ m, W1 0 m H4) ∧ ∀ j k H, W1 j k H →
        (J1.stop j H ∧ Nx H) ∨ (J1.go j H ∧ ∃ Nx1 : Hp → Prop, (∀ H', Nx1 H' → ∃ k', k' < k ∧ W1 (j + 1) k' H') ∧ ∀ x H', J1.yld j H x H' → gY K tg1 x (wipe σ2 vs1) H' fun σ3 H5 => wipe σ3 vs1 = wipe σ2 vs1 ∧ rdC K T F NW cs1 σ3 H5 fun b H6 =>
          if b = true then rdE K T F NW elt σ3 H6 fun y H7 => ∃ acc, H7 D = some (.lst acc) ∧ acc.length < sizeLine ∧ Nx1 (upd H7 D (.lst (acc ++ [y]))) else Nx1 H6)
      else Nx H3) := by
  intro D hD
  let W' : Nat → Nat → Hp → Prop := fun i m H => ∃ ρ μ it acc ws, Hid ρ1 H1 D ρ H ∧ MemOk K ρ H μ ∧ StR K ρ H ps σ ∧ ItR K ρ H it J i ∧ H D = some (.lst ws) ∧ RepL K ρ H acc.reverse ws ∧ acc.length ≤ big ∧ lc2Go (lc2B T F tg cs vs1 tg1 it1 cs1 elt (wipeP ps vs)) m it acc μ = .ok xsF μF
  refine ⟨W', ⟨big, ρ1.hide D, μ1, jt, [], [], Hid.start hm hD, hm.hide hD, hs.hide hD, hj.hide hD, upd_same, .nil, by simp, hF⟩, ?_⟩
  rintro i m H ⟨ρ, μ, it, acc, ws, hh, hm, hs, hj, hw, hr, hl, hg⟩
  cases m with
  | zero => simp only [lc2Go] at hg; cases hg
  | succ f =>
    simp only [lc2Go] at hg
    cases hn : it.next μ with
    | none => rw [hn] at hg; cases hg
    | some o =>
      rw [hn] at hg
      cases o with
      | none =>
        simp only [R.ok.injEq] at hg
        obtain ⟨rfl, rfl⟩ := hg
        exact .inl ⟨hj.stop hm hn, hQ D ρ H ws hh hm hw hr⟩
      | some q =>
        obtain ⟨y, it'⟩ := q
        obtain ⟨hgo, hyld⟩ := hj.next hm hn
        refine .inr ⟨hgo, fun H' => ∃ m', m' < f + 1 ∧ W' (i + 1) m' H', fun _ h => h, fun x H' hy => ?_⟩
        obtain ⟨s1, m1, ry, j1⟩ := hyld x H' hy
        simp only at hg
        have hs1 := hs.step s1
        have hh1 := hh.inner s1
        have hr1 := hr.step s1
        have hw1 := hid_keep hm hh.mem s1 hw
        unfold lc2B at hg
        cases hb : bindY tg y (wipeP ps vs) with
        | none => rw [hb] at hg; cases hg
        | some ps' =>
          rw [hb] at hg
          simp only at hg
          refine ⟨ρ, μ, wipeP ps vs, y, ps', m1, hs1.wipe vs, ry, hb, fun σ2 r2 sm => ⟨?_, ?_⟩⟩
          · rw [← wipe_same (sm.mono hid), wipe_wipe]
          · refine ⟨ρ, μ, ps', m1, r2, ?_⟩
            cases hc : evAll T.G F cs ps' μ with
            | bad => rw [hc] at hg; cases hg
            | exc c x' μ' => rw [hc] at hg; cases hg
            | ok b μ2 =>
              rw [hc] at hg
              simp only [HP.R.bind] at hg
              intro ρ2 H2 s2 m2
              have hs2 := hs1.step s2
              have hh2 := hh1.inner s2
              have hr2 := hr1.step s2
              have hw2 := hid_keep m1 hh1.mem s2 hw1
              have j2 := j1.step s2
              have r2' := r2.step s2
              cases b with
              | false =>
                simp only [Bool.false_eq_true, if_false] at hg ⊢
                exact ⟨f, Nat.lt_succ_self f, ρ2, μ2, it', acc, ws, hh2, m2, hs2, j2, hw2, hr2, hl, hg⟩
              | true =>
                simp only [if_true] at hg ⊢
                refine ⟨ρ2, μ2, ps', m2, r2', ?_⟩
                cases he : evI T.G F it1 ps' μ2 with
                | bad => rw [he] at hg; cases hg
                | exc c x' μ' => rw [he] at hg; cases hg
                | ok j1t μ3 =>
                  rw [he] at hg
                  simp only [HP.R.bind] at hg
                  cases hi : lcGo (lcB T F tg1 cs1 elt (wipeP ps' vs1)) (big - acc.length) j1t acc μ3 with
                  | bad => rw [hi] at hg; cases hg
                  | exc c x' μ' => rw [hi] at hg; cases hg
                  | ok acc' μ4 =>
                    rw [hi] at hg
                    simp only at hg
                    intro ρ3 H3 s3 m3 ρ4 H4 J1 s4 m4 hj1
                    have s34 := s3.trans s4
                    have hw3 := hid_keep m2 hh2.mem s3 hw2
                    have hw4 := hid_keep m3 (hh2.inner s3).mem s4 hw3
                    refine lc_in (Pv := fun ρ H => StR K ρ H ps σ ∧ ItR K ρ H it' J (i + 1)) hid1 (hh2.inner s34) m4 (r2'.step s34) hj1 hw4 (hr2.step s34) (by omega) ⟨hs2.step s34, j2.step s34⟩
                      (fun ρ H ρ' H' h s => ⟨h.1.step s, h.2.step s⟩) (fun ρ H o h a b c => ⟨h.1.poke a b, h.2.poke a b c⟩) hi fun ρ5 H5 ws5 h1 h2 h3 h4 h5 h6 => ?_
                    exact ⟨f, Nat.lt_succ_self f, ρ5, μ4, it', acc'.reverse, ws5, h1, h2, h6.1, h6.2, h3, by rw [List.reverse_reverse]; exact h4, by simpa using h5, hg⟩
theorem lc2_imp {K : PySem.W.Frag} {m : Bool} {tg tg1 : TG} {it it1 : I} {cs cs1 : EL} {elt : E} {vs vs1 : List Nat} {σ : L2.St} {H : Hp} {Q : VK} (hid : ∀ i ∈ tg.ids, i ∈ vs) (hid1 : ∀ i ∈ tg1.ids, i ∈ vs1) (h : rdE K T F W (.lc2 m vs vs1 tg it cs tg1 it1 cs1 elt) σ H Q) :
    tLc2 (rdI K T F W it) (gY K tg) (rdC K T F NW cs) (rdI K T F NW it1) (gY K tg1) (rdC K T F NW cs1) (rdE K T F NW elt) vs vs1 σ H Q := by
  obtain ⟨ρ, μ, ps, hm, hs, o⟩ := h
  have o : Out K ρ H ((evI T.G F it ps μ).bind fun jt μ => (lc2Go (lc2B T F tg cs vs1 tg1 it1 cs1 elt (wipeP ps vs)) big jt [] μ).bind fun xs μ => newL m xs μ) Q (WS W T σ) T.att := by
    simp only [evE] at o
    exact o
  refine ⟨ρ, μ, ps, hm, hs, (out_bindG o).imp fun jt μ1 ρ1 H1 ⟨s1, m1, o1⟩ ρ2 H2 J s2 m2 hj => ?_⟩
  cases hF : lc2Go (lc2B T F tg cs vs1 tg1 it1 cs1 elt (wipeP ps vs)) big jt [] μ1 with
  | bad => rw [hF] at o1; exact o1.elim
  | exc c x μ' => exact absurd hF (lc2_ne _ _ _ _ _ _ _)
  | ok xsF μF =>
    rw [hF] at o1
    exact lc2_loop (Qd := fun D H3 => Q (.ref D) H3) hid hid1 m2 (hs.step (s1.trans s2)) hj hF fun D ρ3 H3 ws h1 h2 h3 h4 => h1.fin h2 h3 h4 (Out.step s2 o1)
theorem s_lc2 {m : Bool} {vs vs1 : List Nat} {tg tg1 : TG} {it it1 : I} {cs cs1 : EL} {elt : E} {etg ei etg1 ei1 eelt : Expr} {ifs ifs1 : List Expr} {scope : Scope} {own : List (Str × Nat)} {pos : Pos} (hc : X.calm = true) (hN : X.N.Nodup) (hid : ∀ i ∈ tg.ids, i ∈ own.map (·.2)) (hid1 : ∀ i ∈ tg1.ids, i ∈ vs1) (hvs : vs = own.map (·.2)) (hv1 : ∀ i ∈ vs1, i ∈ own.map (·.2))
    (hi : PI X etg ei (rdI X.K T F W it)) (ok : BlkOk X.N X.env.scope scope own)
    (hg : ∀ (s : Shared) (H : Hp) (C : Addr) (cl : List (Str × Addr)) (fp : List Addr), PG (X.blk s H scope (compEnvC scope cl C X.env) fp) etg (gY X.K tg))
    (ht : ∀ (s : Shared) (H : Hp) (C : Addr) (cl : List (Str × Addr)) (fp : List Addr), PTs (X.blk s H scope (compEnvC scope cl C X.env) fp) ifs (rdC X.K T F NW cs))
    (hi1 : ∀ (s : Shared) (H : Hp) (C : Addr) (cl : List (Str × Addr)) (fp : List Addr), PI (X.blk s H scope (compEnvC scope cl C X.env) fp) etg1 ei1 (rdI X.K T F NW it1))
    (hg1 : ∀ (s : Shared) (H : Hp) (C : Addr) (cl : List (Str × Addr)) (fp : List Addr), PG (X.blk s H scope (compEnvC scope cl C X.env) fp) etg1 (gY X.K tg1))
    (ht1 : ∀ (s : Shared) (H : Hp) (C : Addr) (cl : List (Str × Addr)) (fp : List Addr), PTs (X.blk s H scope (compEnvC scope cl C X.env) fp) ifs1 (rdC X.K T F NW cs1))
    (he : ∀ (s : Shared) (H : Hp) (C : Addr) (cl : List (Str × Addr)) (fp : List Addr), PE (X.blk s H scope (compEnvC scope cl C X.env) fp) eelt (rdE X.K T F NW elt)) (hs : ∀ x, foldedSetIterable ei X.env x = pure x) (hs1 : ∀ env x, foldedSetIterable ei1 env x = pure x) :
    PE X (.ListComp eelt [⟨etg, ei, ifs, 0⟩, ⟨etg1, ei1, ifs1, 0⟩] scope pos) (rdE X.K T F W (.lc2 m vs vs1 tg it cs tg1 it1 cs1 elt)) := by
  subst hvs
  exact PE.imp (pe_lc2 hc hN hi ok hv1 hg ht hi1 hg1 ht1 he hs hs1) fun σ H Q h => lc2_imp hid hid1 h
end
end HP
set_option Elab.async false
set_option linter.all false
set_option maxRecDepth 100000
set_option maxHeartbeats 4000000
namespace HP
open PySem PySem.Spec PyProof.Rows L2

/-! ### enumerate over a tuple -/
theorem meets_enuT (a : Addr) (its : Array Value) :
    Meets (Builtin.«enumerate.__new__» ⟨[.type "enumerate", .ref a], []⟩) (fun _ R s => s.heap.IsTuple a its ∧
      R (.ok (.ret (.ref (s.heap.push { cls := .type "tuple_iterator", data := .fields #[.ref a, .int 0 0] }).objs.size)))
        { s with heap := (s.heap.push { cls := .type "tuple_iterator", data := .fields #[.ref a, .int 0 0] }).push { cls := .type "enumerate", data := .fields #[.none, .bool false, .ref s.heap.objs.size, rawInt 0, .none, .none] } }) :=
  .of_wp fun prog w A R s hs => by
    obtain ⟨heap, gens, drawn, toks, ost⟩ := s
    obtain ⟨hT, hs⟩ := hs
    have sub := sub_enumerate
    have walk : ∀ {B : Around} {E : Value → Shared → Prop} {Q : Value → Shared → Prop}, Q (.ref heap.objs.size) ⟨heap.push { cls := .type "tuple_iterator", data := .fields #[.ref a, .int 0 0] }, gens, drawn, toks, ost⟩ → wpAny (model prog w) B (pyIter (.ref a)) Q E ⟨heap, gens, drawn, toks, ost⟩ :=
      fun q => wpAny_pyIter_tuple hT q
    wp_walk using walk
    refine wpAny_stack_any fun frames => wpAny_pure ?_
    split
    · rename_i c _ _ _ _ _
      cases (c == Value.type "enumerate") <;> (wp_walk using walk; exact ⟨_, rfl, hs⟩)
    · wp_walk using walk
      exact ⟨_, rfl, hs⟩
section
variable {prog : Program} {w : World} {A : Around} {E : Value → Shared → Prop} {s : Shared}
theorem call_enuT {a : Addr} {its : Array Value} {Q : Value → Shared → Prop} (hT : s.heap.IsTuple a its)
    (h : ∀ h', IsEnum h' (s.heap.objs.size + 1) s.heap.objs.size 0 .none → h'.IsTupleIter s.heap.objs.size a 0 → (∀ b o, s.heap.get? b = some o → h'.get? b = some o) → Q (.ref (s.heap.objs.size + 1)) { s with heap := h' }) :
    wpAny (model prog w) A (call (.type "enumerate") [.ref a]) Q E s := by
  refine callType_new F.called_enumerate (by decide) (F.typeCall_enumerate_1 _) (F.newCall_enumerate_1 _) (fun obj => F.args_object_init_2 obj _) F.entry_enumerate_new (meets_enuT a its) ⟨hT, ?_⟩
  generalize hi : ({ cls := .type "tuple_iterator", data := .fields #[.ref a, .int 0 0] } : Obj) = oi
  have size1 : (s.heap.push oi).objs.size = s.heap.objs.size + 1 := Heap.size_push ..
  show _ ∧ _
  rw [size1]
  have there := Heap.get?_push_size (s.heap.push oi) (o := { cls := .type "enumerate", data := .fields #[.none, .bool false, .ref s.heap.objs.size, rawInt 0, .none, .none] }) rfl
  rw [size1] at there
  have first : (s.heap.push oi).get? s.heap.objs.size = some oi := Heap.get?_push_size _ (by rw [← hi]; rfl)
  refine ⟨⟨_, there, rfl⟩, h _ there ⟨oi, Heap.get?_push_of_some _ first, by rw [← hi], by rw [← hi]; rfl⟩ fun b o e => Heap.get?_push_of_some _ (Heap.get?_push_of_some _ e)⟩
end
theorem turn_enuT {P : Program} {w : World} {K : PySem.W.Frag} {elts : List Expr} {kk : Nat} {tpos : Pos} (a e it : Addr) :
    Turn P w K (.Tuple elts kk tpos) (IteT K a) [e, it] e (fun i h => (∃ old, IsEnum h e it ((i : Nat) : Int) old) ∧ h.IsTupleIter it a i ∧ e ≠ it) where
  mem := by simp
  obj := fun i h ⟨⟨old, he⟩, ⟨o, ho, hc, hd⟩, _⟩ b hb => by
    rcases (by simpa using hb : b = e ∨ b = it) with rfl | rfl
    · exact ⟨_, he, fun v q => nomatch q⟩
    · exact ⟨o, ho, fun v q => by rw [hd] at q; cases q⟩
  keep := fun i h h' ⟨⟨old, he⟩, hi, ne⟩ kp => ⟨⟨old, kp e (by simp) _ he⟩, hi.at fun o q => kp it (by simp) o q, ne⟩
  item := by
    rintro X rfl rfl rfl hc i pins s σ H E I fpo ⟨⟨old, he⟩, hit, ne⟩ ⟨xs, x, hq, hx⟩
    obtain ⟨its, rv, ht, hz⟩ := I.tuple hq
    obtain ⟨u, hu, ru⟩ := rv.get hx
    have le : e < s.heap.objs.size := Heap.lt_size he
    have li : it < s.heap.objs.size := by obtain ⟨_, q, _⟩ := hit; exact Heap.lt_size q
    have tT : s.heap.IsTuple a its.toArray := ht
    have la : a ≠ it := fun z => by
      obtain ⟨o, q, c, _⟩ := hit
      obtain ⟨o2, q2, c2, _⟩ := tT
      rw [z, q] at q2
      cases q2
      rw [c] at c2
      injection c2 with c3
      exact absurd c3 (by decide)
    have lae : e ≠ a := fun z => by
      obtain ⟨o2, q2, c2, _⟩ := tT
      rw [← z, he] at q2
      cases q2
      injection c2 with c3
      exact absurd c3 (by decide)
    have hh : X.A.handled = none := I.ok.hd hc
    have D := Draws.tuple (prog := X.prog) (w := X.w) (A := X.A.in1) hh it a la its.toArray
    have lt : i < its.toArray.size := by
      have := (List.getElem?_eq_some_iff.mp hu).1
      simpa using this
    refine wpAny_pyNext_enum_itemC D he (i := i) ⟨hit, tT⟩ lt ne (by simp [ne, lae]) fun y h' tk hy out st' new sz kp => ?_
    have hy : y = u := by
      have hu' : its.toArray[i]? = some u := by simpa using hu
      have hy' : its.toArray[i]? = some y := hy
      rw [hu'] at hy'
      exact (Option.some.inj hy').symm
    subst hy
    refine ⟨_, rfl, wpAny_letOwnedTupleGo_enum (s := { s with heap := h', toks := tk + 1 }) out fun h2 he2 same => ?_⟩
    have nT : s.heap.objs.size ≠ e := Nat.ne_of_gt le
    have new2 : h2.get? s.heap.objs.size = some { cls := .type "tuple", data := .seq #[.int i tk, y] } := (same.2 _ nT).trans new
    have ob : ObjOk X.prog X.w (upd H s.heap.objs.size (.tup [.int (i : Nat), x])) h2 s.heap.objs.size (.tup [.int (i : Nat), x]) :=
      ⟨by show 2 ≤ sizeLine; decide, [.int i tk, y], .cons ⟨_, rfl⟩ (.cons ru .nil), ⟨_, new2, rfl, _, rfl⟩⟩
    have I1 : Inv X pins σ (upd H s.heap.objs.size (.tup [.int (i : Nat), x])) { s with heap := h2, toks := tk + 1 } :=
      I.turnedNew (ch := [e, it]) (fun b o hb q => (same.2 b (fun z => hb (by simp [z]))).trans (kp b o (fun z => hb (by simp [z])) (fun z => hb (by simp [z])) q)) fpo (Nat.le_refl _) ob
    refine ⟨.ref s.heap.objs.size, _, I1, rfl, ⟨_, x, rfl, I.hok.fresh (Nat.le_refl _), rfl, fun ys hys => by rw [I.tuple_inj hys hq]; exact hx⟩, ⟨⟨y, ?_⟩, st'.1.at fun o q => (same.2 it (Ne.symm ne)).trans q, ne⟩, fun b hb => ?_⟩
    · have eq : ((i + 1 : Nat) : Int) = (i : Int) + 1 := by omega
      rw [eq]; exact he2
    · have lb : b < s.heap.objs.size := by
        rcases (by simpa using hb : b = e ∨ b = it) with rfl | rfl
        · exact le
        · exact li
      rw [upd_ne (Nat.ne_of_lt lb)]
      exact (fpo b hb).1
  done := by
    rintro X rfl rfl rfl hc i pins s σ H E I fpo ⟨⟨old, he⟩, hit, ne⟩ ⟨xs, hq, hx⟩
    obtain ⟨its, rv, ht, hz⟩ := I.tuple hq
    have tT : s.heap.IsTuple a its.toArray := ht
    obtain ⟨f0, f1, f2, f3, f4, f5⟩ := fpo it (by simp)
    have hl := rv.length
    have la : a ≠ it := fun z => by
      obtain ⟨o, q, c, _⟩ := hit
      obtain ⟨o2, q2, c2, _⟩ := tT
      rw [z, q] at q2
      cases q2
      rw [c] at c2
      injection c2 with c3
      exact absurd c3 (by decide)
    have hh : X.A.handled = none := I.ok.hd hc
    have D := Draws.tuple (prog := X.prog) (w := X.w) (A := X.A.in1) hh it a la its.toArray
    have sz : its.toArray.size = i := by simp; omega
    exact wpAny_pyNext_enum_endD D he (by rw [sz]; exact ⟨hit, tT⟩) fun h' eb => ⟨rfl, I.turned (t' := s.toks) (fun b o hb q => eb b o hb q) f0 f1 f3 f4 f5⟩
  self := fun A i s Q E ⟨⟨_, he⟩, _⟩ h => wpAny_pyIter_enum he h
section
variable {X : Cx} {T : Tab} {F : Nat → List PV → Mem → HP.R PV} {W : WX}
def iEnuA (K : PySem.W.Frag) (ta : TA) : TI := fun σ H R => ta σ H fun vs H1 => ∃ a xs, vs = [.ref a] ∧ ((SqL K H1 a xs ∧ R (Ite K a) H1) ∨ (SqT K H1 a xs ∧ R (IteT K a) H1))
theorem pi_enuA {e : Expr} {ta : TA} {p pos tpos : Pos} {elts : List Expr} {kk : Nat} (hg : Gl X "enumerate") (hm : X.mg "enumerate" = none) (ha : PA X [e] ta) (hs : starEach [e] X.env = [(false, eval e X.env)]) :
    PI X (.Tuple elts kk tpos) (.Call (.Name "enumerate" p) [e] [] pos) (iEnuA X.K ta) := by
  refine ⟨fun pins s σ H R I h => ?_⟩
  refine Call_ (ld_blt I hg hm boot_enumerate (PyProof.Rows.callWith_type1 (thn (ha.run pos pins s σ H _ I h) fun us s1 ⟨vs, H1, I1, rv, a, xs, ev, q⟩ => ?_) hs rfl))
  subst ev
  have eu := Vals.ref1 rv
  subst eu
  have young : ∀ b, b ∈ [s1.heap.objs.size + 1, s1.heap.objs.size] → s1.heap.objs.size ≤ b := fun b hb => by
    rcases (by simpa using hb : b = s1.heap.objs.size + 1 ∨ b = s1.heap.objs.size) with rfl | rfl
    · exact Nat.le_add_right _ _
    · exact Nat.le_refl _
  rcases q with ⟨hq, q⟩ | ⟨hq, q⟩
  · obtain ⟨its, rl, pl, hz⟩ := I1.list hq
    refine call_enumerate_list pl.isList fun h' he hit _ hk => wpAny_pyIter_enum he ?_
    exact ⟨_, _, _, _, H1, rfl, I1.kept (t' := s1.toks) hk, turn_enum a (s1.heap.objs.size + 1) s1.heap.objs.size, ⟨⟨.none, he⟩, hit, Nat.succ_ne_self _⟩, fun b hb => I1.fpOk (young b hb) (I1.hok.fresh (young b hb)), q⟩
  · obtain ⟨its, rl, pl, hz⟩ := I1.tuple hq
    refine call_enuT (its := its.toArray) pl fun h' he hit hk => wpAny_pyIter_enum he ?_
    exact ⟨_, _, _, _, H1, rfl, I1.kept (t' := s1.toks) hk, turn_enuT a (s1.heap.objs.size + 1) s1.heap.objs.size, ⟨⟨.none, he⟩, hit, Nat.succ_ne_self _⟩, fun b hb => I1.fpOk (young b hb) (I1.hok.fresh (young b hb)), q⟩
theorem i_enu {a : E} {ea : Expr} {elts : List Expr} {kk : Nat} {tpos p pos : Pos} (hg : Gl X "enumerate") (hm : X.mg "enumerate" = none) (ha : PE X ea (rdE X.K T F W a)) (hs : starEach [ea] X.env = (false, eval ea X.env) :: starEach [] X.env) :
    PI X (.Tuple elts kk tpos) (.Call (.Name "enumerate" p) [ea] [] pos) (rdI X.K T F W (.enu a)) :=
  PI.imp (pi_enuA hg hm (pa_cons ha pa_nil hs) hs) fun σ H R ⟨ρ, μ, ps, hm, hs, o⟩ => ⟨ρ, μ, ps, hm, hs, by
    simp only [evI] at o
    refine (outG_bind o).imp fun x H1 ⟨ρ1, μ1, p, s1, m1, r1, o1⟩ => ?_
    cases r1 with
    | lst n1 e1 l1 => exact ⟨_, _, rfl, .inl ⟨.inl (.inl e1), o1 ρ1 H1 .refl m1 ρ1 H1 _ .refl m1 (.enu (.lst n1 e1 l1) rfl)⟩⟩
    | tup n1 e1 d1 l1 => exact ⟨_, _, rfl, .inr ⟨frT e1, o1 ρ1 H1 .refl m1 ρ1 H1 _ .refl m1 (.enuT (.tup n1 e1 d1 l1) rfl (Nat.zero_le _))⟩⟩
    | _ => exact o1.elim⟩
end
end HP
set_option Elab.async false
set_option linter.all false
set_option maxRecDepth 100000
set_option maxHeartbeats 4000000
namespace HP
open PySem PySem.Spec PyProof.Rows L2

/-! ### {elt for tg in iter if ..}, elt an int -/
section
variable {X : Cx}
/-- its reading: D is the new set -/
def tSi (w : World) (wi : TI) (g : L2.TG) (tt : TT) (te : TE) (vs : List Nat) : TE := fun σ H Q => wi σ H fun J H1 => ∀ D, H1 D = none → ∃ V' : Nat → Nat → Hp → Prop, (∃ m, V' 0 m (upd H1 D (SetO w D (fun _ => false) 0))) ∧ ∀ i m H, V' i m H →
  (J.stop i H ∧ Q (.ref D) H) ∨ (J.go i H ∧ ∃ Go : Hp → Prop, (∀ H', Go H' → ∃ m', m' < m ∧ V' (i + 1) m' H') ∧ ∀ x H', J.yld i H x H' → g x (wipe σ vs) H' fun σ2 H2 => wipe σ2 vs = wipe σ vs ∧ tt σ2 H2 fun b H3 =>
    if b = true then te σ2 H3 fun y H4 => ∃ (k : Int) (S : Int → Bool) (n : Nat), y = .int k ∧ H4 D = some (SetO w D S n) ∧ n + 1 < scanBound ∧ Go (upd H4 D (SetO w D (fun j => S j || decide (j = k)) (if S k = true then n else n + 1))) else Go H3)
/-- one turn of the block: what stands behind the item's store -/
theorem turn_end {Y : Cx} {fp : List Addr} {σ0 σ1 : L2.St} {vs : List Nat} {hp : Heap} {s : Shared} {H : Hp} {tn : Nat → Heap → Prop} {i : Nat} {J : It} {P : Program} {w : World} {K : PySem.W.Frag} {tg : Expr} {it : Addr} (T : Turn P w K tg J fp it tn) (I : Inv Y ([] ++ pinsAt fp hp) σ1 H s) (hw : wipe σ1 vs = wipe σ0 vs) (st : tn i hp) :
    Inv Y [] (wipe σ0 vs) H s ∧ tn i s.heap ∧ ∀ b ∈ fp, H b = none := by
  have pinned : ∀ b ∈ fp, ∀ o, hp.get? b = some o → s.heap.get? b = some o ∧ H b = none := fun b hb o e => by
    obtain ⟨p1, p2, _⟩ := I.pin (b, o) (List.mem_append_right _ (List.mem_append_right _ (mem_pinsAt hb e)))
    exact ⟨p1, p2⟩
  refine ⟨(I.unpinned (pins := [])).weak (by rw [← hw, wipe_length]) fun j v e => ?_, T.keep _ _ _ st fun b hb o e => (pinned b hb o e).1, fun b hb => ?_⟩
  · rw [← hw] at e
    exact (wipe_some e).1
  · obtain ⟨o, e, _⟩ := T.obj _ _ st b hb
    exact (pinned b hb o e).2
theorem pe_si {elt tg iter : Expr} {ifs : List Expr} {scope : Scope} {own : List (Str × Nat)} {pos : Pos} {wi : TI} {g : L2.TG} {tt : TT} {te : TE} (hc : X.calm = true) (hN : X.N.Nodup) (hi : PI X tg iter wi) (ok : BlkOk X.N X.env.scope scope own)
    (hg : ∀ (s : Shared) (H : Hp) (C : Addr) (cl : List (Str × Addr)) (fp : List Addr), PG (X.blk s H scope (compEnvC scope cl C X.env) fp) tg g)
    (ht : ∀ (s : Shared) (H : Hp) (C : Addr) (cl : List (Str × Addr)) (fp : List Addr), PTs (X.blk s H scope (compEnvC scope cl C X.env) fp) ifs tt)
    (he : ∀ (s : Shared) (H : Hp) (C : Addr) (cl : List (Str × Addr)) (fp : List Addr), PE (X.blk s H scope (compEnvC scope cl C X.env) fp) elt te) (hs : ∀ x, foldedSetIterable iter X.env x = pure x) :
    PE X (.SetComp elt [⟨tg, iter, ifs, 0⟩] scope pos) (tSi X.w wi g tt te (own.map (·.2))) := by
  refine ⟨fun pins s σ H Q I h => ?_⟩
  rw [PpSet.eval_SetComp]
  have cells : ∀ y ∈ scope.names, y.2 = .free → ∃ c, X.env.cells.lookup y.1 = some c := fun y hy e => (ok.free y hy e).elim (fun k => I.ok.has _ (.inl k)) fun k => I.ok.has _ (.inr k)
  refine wpAny_comprehension_free (use := none) rfl hs (closure_ok cells) ok.kind (fun y hy e => by rw [ok.uniq y hy, e]) (thn (hi.run pins s σ H _ I h) fun xv s1 hx => thn hx fun itv s2 ⟨it, fp, tn, J, H2, ev, I2, T, st2, free2, q⟩ => ?_)
  subst ev
  refine PpSet.newSet_ok (newEnv_comp ?_)
  have fresh : H2 s2.heap.objs.size = none := I2.hok.fresh (Nat.le_refl _)
  obtain ⟨V', ⟨m0, v0⟩, turn⟩ := q _ fresh
  -- the set, new
  have ISet : Inv X pins σ (upd H2 s2.heap.objs.size (SetO X.w s2.heap.objs.size (fun _ => false) 0)) { s2 with heap := s2.heap.push { cls := .type "set", dict := none, data := .set #[] 0 (.fresh 0 0 (!X.w.params.followText "set-order")) } } :=
    I2.laid (t' := s2.toks) (fun b o e => Heap.get?_push_of_some _ e) (Nat.le_refl _) (setO_new (setR_fresh X.w))
  have below : ∀ b ∈ fp, b < s2.heap.objs.size := fun b hb => by
    obtain ⟨o, e, _⟩ := T.obj _ _ st2 b hb
    exact Heap.lt_size e
  have stSet : tn 0 (s2.heap.push { cls := .type "set", dict := none, data := .set #[] 0 (.fresh 0 0 (!X.w.params.followText "set-order")) }) := T.keep _ _ _ st2 fun b _ o e => Heap.get?_push_of_some _ e
  have freeSet : ∀ b ∈ fp, FpOk X pins (upd H2 s2.heap.objs.size (SetO X.w s2.heap.objs.size (fun _ => false) 0)) b ∧ b < (s2.heap.push { cls := .type "set", dict := none, data := .set #[] 0 (.fresh 0 0 (!X.w.params.followText "set-order")) }).objs.size := fun b hb => by
    have lt := below b hb
    exact ⟨⟨by rw [upd_ne (Nat.ne_of_lt lt)]; exact (free2 b hb).1, (free2 b hb).2⟩, by rw [Heap.size_push]; exact Nat.lt_succ_of_lt lt⟩
  generalize hD : s2.heap.objs.size = D at *
  generalize hpS : s2.heap.push { cls := .type "set", dict := none, data := .set #[] 0 (.fresh 0 0 (!X.w.params.followText "set-order")) } = hS at *
  generalize hHS : upd H2 D (SetO X.w D (fun _ => false) 0) = HS at *
  have IB := block_start ISet ok hN freeSet
  have pg := hg { s2 with heap := hS } HS hS.objs.size (cellsFrom (hS.objs.size + 1) scope.names (cloFrom X.env.cells scope.names [])) fp
  have pt := ht { s2 with heap := hS } HS hS.objs.size (cellsFrom (hS.objs.size + 1) scope.names (cloFrom X.env.cells scope.names [])) fp
  have pe := he { s2 with heap := hS } HS hS.objs.size (cellsFrom (hS.objs.size + 1) scope.names (cloFrom X.env.cells scope.names [])) fp
  have stB : tn 0 (pushCells (hS.push { cls := .type "dict", data := .dict #[] }) scope.names) := T.keep _ _ _ stSet fun b _ o e => pushCells_keeps _ _ _ _ (Heap.get?_push_of_some _ e)
  show codeAny _ _ (.compStart (.SetComp elt [⟨tg, iter, ifs, 0⟩] scope pos) 0 (.ref it) (.ref D) (compEnvC scope (cellsFrom (hS.objs.size + 1) scope.names (cloFrom X.env.cells scope.names [])) hS.objs.size X.env)) (compPost (model X.prog X.w) X.A X.xe none (EP X pins σ Q) (.ref D) hS.objs.size) { s2 with heap := pushCells (hS.push { cls := .type "dict", data := .dict #[] }) scope.names }
  generalize hce : compEnvC scope (cellsFrom (hS.objs.size + 1) scope.names (cloFrom X.env.cells scope.names [])) hS.objs.size X.env = ce at IB pg pt pe ⊢
  have ceL : ce.locals = hS.objs.size := by rw [← hce]; rfl
  have fpB : ∀ {σ' : L2.St} {H' : Hp} {s' : Shared}, Inv (X.blk { s2 with heap := hS } HS scope ce fp) [] σ' H' s' → (∀ b ∈ fp, H' b = none) → ∀ b ∈ fp, FpOk (X.blk { s2 with heap := hS } HS scope ce fp) [] H' b := fun {σ' H' s'} I' nn b hb =>
    ⟨nn b hb, (I'.ok.exf b hb).1, I'.ok.exfs b hb, .inl hb, fun x c e => (I'.ok.exf b hb).2 x c e, fun p hp => by cases (show p ∈ ([] : List (Addr × Obj)) from hp)⟩
  have loop : codeAny (model X.prog X.w) X.A (.compLoop (.SetComp elt [⟨tg, iter, ifs, 0⟩] scope pos) 0 (.ref it) (.ref D) ce) (compPost (model X.prog X.w) X.A X.xe none (EP X pins σ Q) (.ref D) hS.objs.size) { s2 with heap := pushCells (hS.push { cls := .type "dict", data := .dict #[] }) scope.names } := by
    refine PpSet.compLoopS_any (fun n s' => ∃ i H', Inv (X.blk { s2 with heap := hS } HS scope ce fp) [] (wipe σ (own.map (·.2))) H' s' ∧ tn i s'.heap ∧ (∀ b ∈ fp, H' b = none) ∧ V' i n H') ?_ m0 ⟨0, HS, IB, stB, fun b hb => (freeSet b hb).1.1, v0⟩
    rintro n s5 ⟨i, H5, I5, st5, n5, v5⟩
    rcases turn i n H5 v5 with ⟨stop, qq⟩ | ⟨go, Go, less, step⟩
    · refine thnF (T.done (X.blk { s2 with heap := hS } HS scope ce fp) rfl rfl rfl hc i [] s5 _ H5 (fun _ _ => False) I5 (fpB I5 n5) st5 stop) fun r s6 ⟨hr, I6⟩ => ?_
      subst hr
      have back : Inv X pins σ H5 s6 := ISet.call' (ch := fp) I6.os I6.base I6.hok I6.bare fun b hb => let z := (freeSet b hb).1.2; ⟨z.2.2.1, z.1, z.2.2.2.1, z.2.2.2.2⟩
      have nC : H5 hS.objs.size = none := by rw [← ceL]; exact I6.free
      obtain ⟨m, ns, _⟩ := I6.loc
      have ns : s6.heap.Ns hS.objs.size m := by rw [← ceL]; exact ns
      obtain ⟨f0, f1, f2, f3, f4, f5⟩ := ISet.fpOk (H' := H5) (Nat.le_refl hS.objs.size) nC
      exact ⟨m, ns, fun h'' sb => ⟨.ref D, H5, back.turned (t' := s6.toks) (fun b o hb e => (sb.2 b hb).trans e) f0 f1 f3 f4 f5, rfl, qq⟩⟩
    · refine thnF (T.item (X.blk { s2 with heap := hS } HS scope ce fp) rfl rfl rfl hc i [] s5 _ H5 (fun _ _ => False) I5 (fpB I5 n5) st5 go) fun r s6 ⟨u, hr, h6⟩ => ?_
      subst hr
      refine thnF h6 fun _ s7 ⟨x, H7, I7, r7, y7, st7, n7⟩ => ?_
      refine thnF (pg.run _ s7 _ H7 x u _ (I7.pinned (fpB I7 n7) (T.obj _ _ st7)) r7 (step x H7 y7)) fun _ s8 ⟨σ8, H8, I8, same, q8⟩ => ?_
      refine thnF (pt.run _ s8 σ8 H8 _ I8 q8) fun b s9 ⟨H9, I9, q9⟩ => ?_
      have fin : ∀ {s' : Shared} {H' : Hp}, Inv (X.blk { s2 with heap := hS } HS scope ce fp) ([] ++ pinsAt fp s7.heap) σ8 H' s' → Go H' → ∃ m, m < n ∧ ∃ i H', Inv (X.blk { s2 with heap := hS } HS scope ce fp) [] (wipe σ (own.map (·.2))) H' s' ∧ tn i s'.heap ∧ (∀ b ∈ fp, H' b = none) ∧ V' i m H' := fun {s' H'} I' goes => by
        obtain ⟨m', lt, v'⟩ := less H' goes
        obtain ⟨a1, a2, a3⟩ := turn_end T I' same st7
        exact ⟨m', lt, i + 1, H', a1, a2, a3, v'⟩
      cases b with
      | false =>
        simp only [Bool.false_eq_true, if_false] at q9 ⊢
        exact fin I9 q9
      | true =>
        simp only [if_true] at q9 ⊢
        refine thnF (pe.run _ s9 σ8 H9 _ I9 q9) fun z s10 ⟨yv, H10, I10, r10, k, S, n0, ey, hSet, room, goes⟩ => ?_
        subst ey
        refine thnF (mt_sadd (X := X.blk { s2 with heap := hS } HS scope ce fp) _ s10 σ8 H10 (.ref D) [.int k] (.ref D) [z] (fun _ H' => Go H') I10 rfl (.cons r10 .nil) ⟨D, k, S, n0, rfl, rfl, hSet, room, goes⟩) fun _ s11 ⟨_, H11, I11, _, goes'⟩ => fin I11 goes'
  exact PpSet.codeAny_compStart_set loop (T.self X.A 0 _ _ _ stB loop)
end
end HP
set_option Elab.async false
set_option linter.all false
set_option maxRecDepth 100000
set_option maxHeartbeats 4000000
namespace HP
open PySem PySem.Spec PyProof.Rows L2

theorem memI_iff (x : Int) : ∀ l : List Int, memI x l = true ↔ x ∈ l
  | [] => by simp [memI]
  | y :: r => by simp [memI, memI_iff x r]
theorem ddI_mem (x : Int) : ∀ l : List Int, x ∈ ddI l ↔ x ∈ l
  | [] => by simp [ddI]
  | y :: r => by
    have ih := ddI_mem x r
    simp only [ddI]
    by_cases c : memI y (ddI r) = true
    · rw [if_pos c, ih]
      have := (ddI_mem y r).mp ((memI_iff _ _).mp c)
      simp only [List.mem_cons]
      exact ⟨.inr, fun h => h.elim (fun e => by rw [e]; exact this) id⟩
    · rw [if_neg c]
      simp [ih]
theorem ddI_nodup : ∀ l : List Int, (ddI l).Nodup
  | [] => .nil
  | y :: r => by
    simp only [ddI]
    by_cases c : memI y (ddI r) = true
    · rw [if_pos c]; exact ddI_nodup r
    · rw [if_neg c]
      exact List.nodup_cons.mpr ⟨fun h => c ((memI_iff _ _).mpr h), ddI_nodup r⟩
theorem ddI_len (k : Int) (l : List Int) : (ddI (k :: l)).length = if decide (k ∈ l) = true then (ddI l).length else (ddI l).length + 1 := by
  simp only [ddI]
  by_cases c : k ∈ l
  · rw [if_pos ((memI_iff _ _).mpr ((ddI_mem _ _).mpr c)), if_pos (decide_eq_true c)]
  · rw [if_neg (fun h => c ((ddI_mem _ _).mp ((memI_iff _ _).mp h))), if_neg (fun h => c (of_decide_eq_true h))]
    rfl
theorem ddI_app : ∀ a b : List Int, (ddI b).length ≤ (ddI (a ++ b)).length
  | [], _ => Nat.le_refl _
  | x :: a, b => by
    have ih := ddI_app a b
    show _ ≤ (ddI (x :: (a ++ b))).length
    rw [ddI_len]
    split <;> omega
theorem sorted_lt {ns l : List Int} (hs : ns.Pairwise (· < ·)) (hm : ∀ k, k ∈ ns ↔ k ∈ l) : ns = sortI (ddI l) := by
  refine sort_uniq ?_ (hs.imp fun h => Int.le_of_lt h)
  refine (List.perm_ext_iff_of_nodup ?_ (ddI_nodup l)).mpr fun a => (hm a).trans (ddI_mem a l).symm
  exact hs.imp fun h => Int.ne_of_lt h
theorem lcGo_ext {body : YV → Mem → HP.R (Option PV)} : ∀ (f : Nat) (it : IT) (acc : List PV) (μ : Mem) (xs : List PV) (μ' : Mem), lcGo body f it acc μ = .ok xs μ' → ∃ rest, xs = acc.reverse ++ rest := by
  intro f
  induction f with
  | zero => intro it acc μ xs μ' h; cases h
  | succ f ih =>
    intro it acc μ xs μ' h
    simp only [lcGo] at h
    split at h
    · cases h
    · cases h; exact ⟨[], by simp⟩
    · split at h
      · rename_i q μ2 hq
        obtain ⟨rest, e⟩ := ih _ _ _ _ _ h
        exact ⟨q :: rest, by rw [e]; simp⟩
      · exact ih _ _ _ _ _ h
      · cases h
theorem map_int_inj : ∀ {a b : List Int}, a.map PV.int = b.map PV.int → a = b
  | [], [], _ => rfl
  | [], _ :: _, h => by cases h
  | _ :: _, [], h => by cases h
  | x :: a, y :: b, h => by
    simp only [List.map_cons, List.cons.injEq, PV.int.injEq] at h
    rw [h.1, map_int_inj h.2]
theorem asInts_app : ∀ (xs ys : List PV) (ns : List Int), asInts (xs ++ ys) = some ns → ∃ a b, asInts xs = some a ∧ asInts ys = some b ∧ ns = a ++ b
  | [], ys, ns, h => ⟨[], ns, rfl, h, rfl⟩
  | x :: xs, ys, ns, h => by
    cases x with
    | int i =>
      simp only [List.cons_append, asInts] at h
      cases h2 : asInts (xs ++ ys) with
      | none => rw [h2] at h; cases h
      | some m =>
        rw [h2] at h
        cases h
        obtain ⟨a, b, h1, h3, rfl⟩ := asInts_app xs ys m h2
        exact ⟨i :: a, b, by simp [asInts, h1], h3, rfl⟩
    | _ => simp [asInts] at h
theorem asInts_map : ∀ (xs : List PV) (ns : List Int), asInts xs = some ns → xs = ns.map PV.int
  | [], ns, h => by cases h; rfl
  | x :: xs, ns, h => by
    cases x with
    | int i =>
      simp only [asInts] at h
      cases h2 : asInts xs with
      | none => rw [h2] at h; cases h
      | some m =>
        rw [h2] at h
        cases h
        rw [asInts_map xs m h2]; rfl
    | _ => simp [asInts] at h
section
variable {X : Cx} {T : Tab} {F : Nat → List PV → Mem → HP.R PV} {W : WX}
abbrev SetL (w : World) (D : Addr) (ks : List Int) : HO := SetO w D (fun j => decide (j ∈ ks)) (ddI ks).length
theorem set_step {w : World} {D : Addr} {ks : List Int} {k : Int} : SetO w D (fun j => decide (j ∈ ks) || decide (j = k)) (if decide (k ∈ ks) = true then (ddI ks).length else (ddI ks).length + 1) = SetL w D (k :: ks) := by
  unfold SetL
  rw [ddI_len]
  congr 1
  funext j
  by_cases h1 : j ∈ ks <;> by_cases h2 : j = k <;> simp [h1, h2]
theorem setO_dk {w : World} {D : Addr} {S : Int → Bool} {n : Nat} (ks : List (Key × V)) : SetO w D S n ≠ .dK ks := fun z => by unfold SetO at z; cases z
theorem setO_frz {w : World} {D : Addr} {S : Int → Bool} {n : Nat} (o : Obj) (u : HO) : SetO w D S n ≠ .frz o u := fun z => by unfold SetO at z; cases z
theorem si_loop {K : PySem.W.Frag} {w : World} {tg : TG} {cs : EL} {elt : E} {vs : List Nat} {ρ1 : Rho} {H1 : Hp} {μ1 : Mem} {ps : PSt} {σ : L2.St} {jt : IT} {J : It} {Qd : Addr → Hp → Prop} (hid : ∀ i ∈ tg.ids, i ∈ vs)
    (hm : MemOk K ρ1 H1 μ1) (hs : StR K ρ1 H1 ps σ) (hj : ItR K ρ1 H1 jt J 0) {xsF : List PV} {nsF : List Int} {μF : Mem} (hF : lcGo (lcB T F tg cs elt (wipeP ps vs)) big jt [] μ1 = .ok xsF μF) (hI : asInts xsF = some nsF) (h64 : (ddI nsF.reverse).length < 64)
    (hQ : ∀ D ρ H, Hid ρ1 H1 D ρ H → MemOk K ρ H μF → H D = some (SetL w D nsF.reverse) → Qd D H) : ∀ D, H1 D = none →
    ∃ W' : Nat → Nat → Hp → Prop, (∃ m, W' 0 m (upd H1 D (SetO w D (fun _ => false) 0))) ∧ ∀ i m H, W' i m H → (J.stop i H ∧ Qd D H) ∨ (J.go i H ∧ ∃ Go : Hp → Prop, (∀ H', Go H' → ∃ m', m' < m ∧ W' (i + 1) m' H') ∧ ∀ x H', J.yld i H x H' → gY K tg x (wipe σ vs) H' fun σ2 H2 => wipe σ2 vs = wipe σ vs ∧ rdC K T F NW cs σ2 H2 fun b H3 =>
      if b = true then rdE K T F NW elt σ2 H3 fun y H4 => ∃ (k : Int) (S : Int → Bool) (n : Nat), y = .int k ∧ H4 D = some (SetO w D S n) ∧ n + 1 < scanBound ∧ Go (upd H4 D (SetO w D (fun j => S j || decide (j = k)) (if S k = true then n else n + 1))) else Go H3) := by
  intro D hD
  let W' : Nat → Nat → Hp → Prop := fun i m H => ∃ ρ μ it ks, Hid ρ1 H1 D ρ H ∧ MemOk K ρ H μ ∧ StR K ρ H ps σ ∧ ItR K ρ H it J i ∧ H D = some (SetL w D ks) ∧ lcGo (lcB T F tg cs elt (wipeP ps vs)) m it (ks.map PV.int) μ = .ok xsF μF
  refine ⟨W', ⟨big, ρ1.hide D, μ1, jt, [], Hid.start hm hD, hm.hide hD, hs.hide hD, hj.hide hD, by rw [upd_same]; unfold SetL; simp [ddI], hF⟩, ?_⟩
  rintro i m H ⟨ρ, μ, it, ks, hh, hm, hs, hj, hw, hg⟩
  have keep : ∀ {ρ ρ' : Rho} {H H' : Hp} {μ : Mem} {ks : List Int}, MemOk K ρ H μ → D ∈ ρ.hid → Step ρ H ρ' H' → H D = some (SetL w D ks) → H' D = some (SetL w D ks) := fun m h s e => s.keeps (m.hid D h).1 e fun ks z => setO_dk ks z
  cases m with
  | zero => simp only [lcGo] at hg; cases hg
  | succ f =>
    simp only [lcGo] at hg
    cases hn : it.next μ with
    | none => rw [hn] at hg; cases hg
    | some o =>
      rw [hn] at hg
      cases o with
      | none =>
        simp only [R.ok.injEq] at hg
        obtain ⟨rfl, rfl⟩ := hg
        refine .inl ⟨hj.stop hm hn, hQ D ρ H hh hm ?_⟩
        have e : nsF = ks.reverse := by
          have h2 := asInts_map _ _ hI
          have h3 : (nsF.map PV.int) = ks.reverse.map PV.int := by rw [← h2, List.map_reverse]
          exact map_int_inj h3
        rw [e, List.reverse_reverse]; exact hw
      | some q =>
        obtain ⟨y, it'⟩ := q
        obtain ⟨hgo, hyld⟩ := hj.next hm hn
        refine .inr ⟨hgo, fun H' => ∃ m', m' < f + 1 ∧ W' (i + 1) m' H', fun _ h => h, fun x H' hy => ?_⟩
        obtain ⟨s1, m1, ry, j1⟩ := hyld x H' hy
        simp only at hg
        have hs1 := hs.step s1
        have hh1 := hh.inner s1
        have hw1 := keep hm hh.mem s1 hw
        unfold lcB at hg
        cases hb : bindY tg y (wipeP ps vs) with
        | none => rw [hb] at hg; cases hg
        | some ps' =>
          rw [hb] at hg
          simp only at hg
          refine ⟨ρ, μ, wipeP ps vs, y, ps', m1, hs1.wipe vs, ry, hb, fun σ2 r2 sm => ⟨?_, ?_⟩⟩
          · rw [← wipe_same (sm.mono hid), wipe_wipe]
          · refine ⟨ρ, μ, ps', m1, r2, ?_⟩
            cases hc : evAll T.G F cs ps' μ with
            | bad => rw [hc] at hg; cases hg
            | exc c x' μ' => rw [hc] at hg; cases hg
            | ok b μ2 =>
              rw [hc] at hg
              simp only [HP.R.bind] at hg
              intro ρ2 H2 s2 m2
              have hs2 := hs1.step s2
              have hh2 := hh1.inner s2
              have hw2 := keep m1 hh1.mem s2 hw1
              have j2 := j1.step s2
              have r2' := r2.step s2
              cases b with
              | false =>
                simp only [Bool.false_eq_true, if_false] at hg ⊢
                exact ⟨f, Nat.lt_succ_self f, ρ2, μ2, it', ks, hh2, m2, hs2, j2, hw2, hg⟩
              | true =>
                simp only [if_true] at hg ⊢
                refine ⟨ρ2, μ2, ps', m2, r2', ?_⟩
                cases he : evE T.G F elt ps' μ2 with
                | bad => rw [he] at hg; cases hg
                | exc c x' μ' => rw [he] at hg; cases hg
                | ok q μ3 =>
                  rw [he] at hg
                  simp only [HP.R.bind] at hg
                  -- the item is an int, and few there are
                  obtain ⟨rest, er⟩ := lcGo_ext _ _ _ _ _ _ hg
                  rw [er] at hI
                  obtain ⟨a, b, ha, hb2, hab⟩ := asInts_app _ _ _ hI
                  rw [List.reverse_cons] at ha
                  obtain ⟨a1, a2, ha1, ha2, rfl⟩ := asInts_app _ _ _ ha
                  cases q with
                  | int k =>
                    simp only [asInts, Option.map_some, Option.some.injEq] at ha2
                    subst ha2
                    have e1 : a1 = ks.reverse := by
                      have h2 := asInts_map _ _ ha1
                      rw [← List.map_reverse] at h2
                      exact (map_int_inj h2).symm
                    subst e1
                    have small : (ddI (k :: ks)).length < 64 := by
                      refine Nat.lt_of_le_of_lt ?_ h64
                      rw [hab]
                      have := ddI_app b.reverse (k :: ks)
                      simpa using this
                    intro ρ3 H3 v s3 m3 rq
                    cases rq
                    have hh3 := hh2.inner s3
                    have hw3 := keep m2 hh2.mem s3 hw2
                    have hsD := (m3.hid D hh3.mem).1
                    have nf : ∀ o u, H3 D ≠ some (.frz o u) := fun o u z => by
                      rw [hw3] at z
                      exact setO_frz _ _ (Option.some.inj z)
                    have few : (ddI ks).length < 64 := by
                      have := ddI_len k ks
                      split at this <;> omega
                    refine ⟨k, _, _, rfl, hw3, ?_, f, Nat.lt_succ_self f, ρ3, μ3, it', k :: ks, hh3.poke, m3.poke hh3.mem, (hs2.step s3).poke hh3.mem hsD, (j2.step s3).poke hh3.mem hsD nf, ?_, hg⟩
                    · show _ < 4096
                      omega
                    · rw [upd_same, set_step]
                  | _ => simp [asInts] at ha2
theorem s_srt {m : Bool} {vs : List Nat} {tg : TG} {it : I} {cs : EL} {elt : E} {etg ei eelt : Expr} {ifs : List Expr} {scope : Scope} {own : List (Str × Nat)} {p pos pos2 : Pos} (hc : X.calm = true) (hN : X.N.Nodup) (hgs : Gl X "sorted") (hms : X.mg "sorted" = none) (hid : ∀ i ∈ tg.ids, i ∈ own.map (·.2)) (hvs : vs = own.map (·.2))
    (hi : PI X etg ei (rdI X.K T F W it)) (ok : BlkOk X.N X.env.scope scope own)
    (hg : ∀ (s : Shared) (H : Hp) (C : Addr) (cl : List (Str × Addr)) (fp : List Addr), PG (X.blk s H scope (compEnvC scope cl C X.env) fp) etg (gY X.K tg))
    (ht : ∀ (s : Shared) (H : Hp) (C : Addr) (cl : List (Str × Addr)) (fp : List Addr), PTs (X.blk s H scope (compEnvC scope cl C X.env) fp) ifs (rdC X.K T F NW cs))
    (he : ∀ (s : Shared) (H : Hp) (C : Addr) (cl : List (Str × Addr)) (fp : List Addr), PE (X.blk s H scope (compEnvC scope cl C X.env) fp) eelt (rdE X.K T F NW elt)) (hs : ∀ x, foldedSetIterable ei X.env x = pure x) :
    PE X (.Call (.Name "sorted" p) [.SetComp eelt [⟨etg, ei, ifs, 0⟩] scope pos2] [] pos) (rdE X.K T F W (.srtS m vs tg it cs elt)) := by
  subst hvs
  refine PE.imp (pe_callB (cr_sortedSet hc) hgs hms (by decide +kernel) (pa_cons (pe_si hc hN hi ok hg ht he hs) pa_nil rfl) (by decide) (by decide) rfl rfl) fun σ H Q ⟨ρ, μ, ps, hm, hs, o⟩ => ?_
  have o : Out X.K ρ H ((evI T.G F it ps μ).bind fun jt μ => (lcGo (lcB T F tg cs elt (wipeP ps (own.map (·.2)))) big jt [] μ).bind fun xs μ => match asInts xs with
      | some ns => if Nat.blt (ddI ns.reverse).length 64 then newL m ((sortI (ddI ns.reverse)).map PV.int) μ else .bad
      | none => .bad) Q (WS W T σ) T.att := by
    simp only [evE] at o
    exact o
  refine ⟨ρ, μ, ps, hm, hs, (out_bindG o).imp fun jt μ1 ρ1 H1 ⟨s1, m1, o1⟩ ρ2 H2 J s2 m2 hj => ?_⟩
  cases hF : lcGo (lcB T F tg cs elt (wipeP ps (own.map (·.2)))) big jt [] μ1 with
  | bad => rw [hF] at o1; exact o1.elim
  | exc c x μ' => exact absurd hF (lcGo_ne _ _ _ _ _ _ _)
  | ok xsF μF =>
    rw [hF] at o1
    simp only [HP.R.bind] at o1
    split at o1
    · rename_i ns hI
      split at o1
      · rename_i c
        have c : (ddI ns.reverse).length < 64 := Nat.le_of_ble_eq_true c
        refine si_loop hid m2 (hs.step (s1.trans s2)) hj hF hI c fun D ρ3 H3 h1 h2 h3 => ?_
        refine ⟨D, _, _, rfl, h3, c, fun ns' p hp hmem hlen hpn => ?_⟩
        have e := sorted_lt (l := ns.reverse) hp fun k => by simpa using hmem k
        subst e
        have hh : ∀ a ∈ ρ2.hid, a ∈ ρ3.hid := fun a ha => by rw [h1.hid]; exact List.mem_cons_of_mem _ ha
        have h1' : ∀ a, a ∉ ρ3.all → a ∉ (⟨ρ3.st, ρ2.hid⟩ : Rho).all := fun a n => by
          obtain ⟨n1, n2⟩ := Rho.not_all.mp n
          exact Rho.not_all.mpr ⟨n1, fun z => n2 (hh a z)⟩
        exact out_lst (h2.reall (ρ' := ⟨ρ3.st, ρ2.hid⟩) h1' rfl fun a ha => h2.hid a (hh a ha)) (RepL.ints _) (Out.step (s2.trans h1.st) o1) p hpn
      · exact o1.elim
    · exact o1.elim
end
end HP
set_option Elab.async false
set_option linter.all false
set_option maxRecDepth 100000
set_option maxHeartbeats 4000000
namespace HP
open PySem PySem.Spec PyProof.Rows L2

/-! ### the text against its short form -/
structure Ck where
  fns : List Str
  gn : List Str
  kws : Nat → List (Nat × List Str × List Nat)
def bltNames : List Str := ["len", "abs", "max", "min", "sum", "sorted", "all", "any", "list", "tuple", "dict", "int", "str", "bool", "isinstance", "range", "enumerate", "zip"]
def ownOf (N : List Str) (vs : List Nat) : List (Str × Nat) := vs.map fun i => (N.getD i "", i)
theorem ownOf_snd (N : List Str) (vs : List Nat) : (ownOf N vs).map (·.2) = vs := by
  unfold ownOf
  rw [List.map_map]
  exact List.map_id vs
def notSet : Expr → Bool
  | .Set _ _ _ => false
  | _ => true
theorem notSet_of {e : Expr} (h : notSet e = true) (env : Env) (x : Value) : foldedSetIterable e env x = pure x := by
  cases e <;> first | rfl | cases h
def notSlice : Expr → Bool
  | .Slice _ _ _ _ => false
  | _ => true
theorem plainIx_of {e : Expr} (h : notSlice e = true) : PlainIx e := by
  intro o i
  cases e <;> first | rfl | cases h
def dbg (x : Str) : Bool := x == ("__debug__" : Str)
def tysOk (sc : Scope) : List Ty → List Expr → Bool
  | [], [] => true
  | t :: ts, .Name x _ :: es => decide (x = t.sn) && isGl sc x && tysOk sc ts es
  | _, _ => false
def blkFn (scope : Scope) : Str → Bool := fun x => scope.names.lookup x == some .cell
mutual
def chkE (C : Ck) (N : List Str) (fn : Str → Bool) (sc : Scope) : E → Expr → Bool
  | .var i, .Name x _ => decide (N[i]? = some x) && (isVis sc x && (!dbg x && !(x == ("__classdict__" : Str))))
  | .gl k, .Name x _ => decide (C.gn[k]? = some x) && (isGl sc x && !dbg x)
  | .non, .Constant .none _ _ => true
  | .bl b, .Constant (.bool c) _ _ => b == c
  | .int i, .Constant (.int j) _ _ => decide (i = j)
  | .str s, .Constant (.str x) _ _ => decide (x = ⟨s.toArray⟩)
  | .bin _ op a b, .BinOp ea eo eb _ => decide (op = eo) && (chkE C N fn sc a ea && chkE C N fn sc b eb)
  | .cmp op a b, .Compare ea [o] [eb] _ => decide (op = o) && (!behindInMarks o eb && (chkE C N fn sc a ea && chkE C N fn sc b eb))
  | .chn op op' a b c, .Compare ea [o, o'] [eb, ec] _ => decide (op = o) && (decide (op' = o') && (!lastMarks [o, o'] [eb, ec] && (chkE C N fn sc a ea && (chkE C N fn sc b eb && chkE C N fn sc c ec))))
  | .conj es, .BoolOp .And l _ => chkB C N fn sc es l
  | .disj es, .BoolOp .Or l _ => chkB C N fn sc es l
  | .not a, .UnaryOp .Not ea _ => chkE C N fn sc a ea
  | .neg a, .UnaryOp .USub ea _ => chkE C N fn sc a ea
  | .ife c a b, .IfExp ec ea eb _ => chkE C N fn sc c ec && (chkE C N fn sc a ea && chkE C N fn sc b eb)
  | .idx a b, .Subscript ea eb _ => notSlice eb && (chkE C N fn sc a ea && chkE C N fn sc b eb)
  | .slc _ a lo hi, .Subscript ea (.Slice el eh none _) _ => chkE C N fn sc a ea && (chkP C N fn sc lo el && chkP C N fn sc hi eh)
  | .tup es, .Tuple l _ _ => chkL C N fn sc es l
  | .lst _ es, .List l _ => chkL C N fn sc es l
  | .dct _, .Dict [] [] _ => true
  | .bf1 _ b a, .Call (.Name x _) [ea] [] _ => decide (x = b.nm) && (isGl sc x && (notStar ea && chkE C N fn sc a ea))
  | .bf2 b a c, .Call (.Name x _) [ea, ec] [] _ => decide (x = b.nm) && (isGl sc x && (notStar ea && (notStar ec && (chkE C N fn sc a ea && chkE C N fn sc c ec))))
  | .isT a true [t], .Call (.Name x _) [ea, .Name y _] [] _ => decide (x = "isinstance") && (isGl sc x && (decide (y = t.sn) && (isGl sc y && (notStar ea && chkE C N fn sc a ea))))
  | .isT a false ts, .Call (.Name x _) [ea, .Tuple es _ _] [] _ => decide (x = "isinstance") && (isGl sc x && (tysOk sc ts es && (Nat.ble ts.length 100 && (notStar ea && chkE C N fn sc a ea))))
  | .call j .nil, .Call (.Name x _) [] [] _ => decide (C.fns[j]? = some x) && (isGl sc x && !dbg x)
  | .call j es, .Call (.Name x _) (e :: ees) [] _ => decide (C.fns[j]? = some x) && (isGl sc x && (!dbg x && ((e :: ees).all notStar && chkL C N fn sc es (e :: ees))))
  | .callK j es ks perm, .Call (.Name x _) ees eks _ => decide (C.fns[j]? = some x) && (isGl sc x && (!dbg x && (ees.all notStar && (chkL C N fn sc es ees && (chkK C N fn sc ks eks && (match kwNames eks with
      | some kn => decide (kn.length = ks.len) && (C.kws j).any fun q => decide (q.1 = es.len) && (decide (q.2.1 = kn) && decide (q.2.2 = perm))
      | none => false))))))
  | .mth f a b, .Call (.Attribute ea n ap) [eb] [] p => decide (n = f.nm) && (notCall ea && ((ap.endLine == p.line) && (notStar eb && (chkE C N fn sc a ea && chkE C N fn sc b eb))))
  | .lc _ vs tg it cs elt, .ListComp eelt [⟨etg, ei, ifs, 0⟩] scope _ => blkC N sc scope (ownOf N vs) && (tg.ids.all vs.contains && (notSet ei && (chkI C N fn sc it etg ei && (chkT N (blkFn scope) (relS scope sc) tg etg && (chkC C N (blkFn scope) (relS scope sc) cs ifs && chkE C N (blkFn scope) (relS scope sc) elt eelt)))))
  | .lc2 _ vs vs1 tg it cs tg1 it1 cs1 elt, .ListComp eelt [⟨etg, ei, ifs, 0⟩, ⟨etg1, ei1, ifs1, 0⟩] scope _ => blkC N sc scope (ownOf N vs) && (tg.ids.all vs.contains && (tg1.ids.all vs1.contains && (vs1.all vs.contains && (notSet ei && (notSet ei1 && (chkI C N fn sc it etg ei && (chkT N (blkFn scope) (relS scope sc) tg etg && (chkC C N (blkFn scope) (relS scope sc) cs ifs &&
      (chkI C N (blkFn scope) (relS scope sc) it1 etg1 ei1 && (chkT N (blkFn scope) (relS scope sc) tg1 etg1 && (chkC C N (blkFn scope) (relS scope sc) cs1 ifs1 && chkE C N (blkFn scope) (relS scope sc) elt eelt)))))))))))
  | .srtS _ vs tg it cs elt, .Call (.Name x _) [.SetComp eelt [⟨etg, ei, ifs, 0⟩] scope _] [] _ => decide (x = "sorted") && (isGl sc x && (blkC N sc scope (ownOf N vs) && (tg.ids.all vs.contains && (notSet ei && (chkI C N fn sc it etg ei && (chkT N (blkFn scope) (relS scope sc) tg etg && (chkC C N (blkFn scope) (relS scope sc) cs ifs && chkE C N (blkFn scope) (relS scope sc) elt eelt)))))))
  | _, _ => false
def chkL (C : Ck) (N : List Str) (fn : Str → Bool) (sc : Scope) : EL → List Expr → Bool
  | .nil, [] => true
  | .cons a r, e :: es => notStar e && (chkE C N fn sc a e && chkL C N fn sc r es)
  | .star a r, .Starred e _ :: es => chkE C N fn sc a e && chkL C N fn sc r es
  | _, _ => false
def chkB (C : Ck) (N : List Str) (fn : Str → Bool) (sc : Scope) : EL → List Expr → Bool
  | .cons a .nil, [e] => chkE C N fn sc a e
  | .cons a r, e :: es => chkE C N fn sc a e && chkB C N fn sc r es
  | _, _ => false
def chkK (C : Ck) (N : List Str) (fn : Str → Bool) (sc : Scope) : EL → List Keyword → Bool
  | .nil, [] => true
  | .cons a r, ⟨_, e, _⟩ :: es => chkE C N fn sc a e && chkK C N fn sc r es
  | _, _ => false
def chkC (C : Ck) (N : List Str) (fn : Str → Bool) (sc : Scope) : EL → List Expr → Bool
  | .nil, [] => true
  | .cons a .nil, [e] => chkE C N fn sc a e
  | _, _ => false
def chkP (C : Ck) (N : List Str) (fn : Str → Bool) (sc : Scope) : EL → Option Expr → Bool
  | .nil, none => true
  | .cons a .nil, some e => chkE C N fn sc a e
  | _, _ => false
def chkI (C : Ck) (N : List Str) (fn : Str → Bool) (sc : Scope) : I → Expr → Expr → Bool
  | .over a, _, e => chkE C N fn sc a e
  | .rng1 a, _, .Call (.Name x _) [ea] [] _ => decide (x = "range") && (isGl sc x && (notStar ea && chkE C N fn sc a ea))
  | .rng2 a b, _, .Call (.Name x _) [ea, eb] [] _ => decide (x = "range") && (isGl sc x && (notStar ea && (notStar eb && (chkE C N fn sc a ea && chkE C N fn sc b eb))))
  | .enu a, .Tuple _ _ _, .Call (.Name x _) [ea] [] _ => decide (x = "enumerate") && (isGl sc x && (notStar ea && chkE C N fn sc a ea))
  | .zip a b, .Tuple _ _ _, .Call (.Name x _) [ea, eb] [] _ => decide (x = "zip") && (isGl sc x && (notStar ea && (notStar eb && (chkE C N fn sc a ea && chkE C N fn sc b eb))))
  | _, _, _ => false
end
end HP
set_option Elab.async false
set_option linter.all false
set_option maxRecDepth 100000
set_option maxHeartbeats 4000000
namespace HP
open PySem PySem.Spec PyProof.Rows L2

structure Gd (C : Ck) (T : Tab) (F : Nat → List PV → Mem → HP.R PV) (k : Nat) (X : Cx) (W : WX) : Prop where
  nd : X.N.Nodup
  calm : X.calm = true
  room : Room k X.A
  gl : ∀ (i : Nat) (x : Str), C.gn[i]? = some x → ∃ (u : Value) (v : V), X.mg x = some u ∧ RelV v u ∧ ∀ p : PV, T.G[i]? = some p → ∀ ρ H, Rep X.K ρ H p v
  bl : ∀ x ∈ bltNames, X.mg x = none
  fn : ∀ (j : Nat) (x : Str), C.fns[j]? = some x → ∃ f fd ps, FnAt X T F k j x (C.kws j) f fd ps
  tk : Takes X W
section
variable {C : Ck} {T : Tab} {F : Nat → List PV → Mem → HP.R PV} {k : Nat} {X : Cx} {W : WX}
theorem Gd.hu (g : Gd C T F k X W) : X.A.units + 70 < cLine := by have := g.room.un; omega
theorem takes_never {X : Cx} : Takes X NW := fun u s' ⟨_, _, _, _, _, _, _, _, _, _, _, _, _, _, _, _, w⟩ => w.elim
theorem Gd.blk (g : Gd C T F k X W) {s : Shared} {H : Hp} {scope : Scope} {ce : Env} {fp : List Addr} : Gd C T F k (X.blk s H scope ce fp) NW :=
  ⟨g.nd, g.calm, g.room, g.gl, g.bl, fun j x e => let ⟨f, fd, ps, A⟩ := g.fn j x e; ⟨f, fd, ps, ⟨A.mg, A.kp, A.bd, A.ok, A.ln, A.kw⟩⟩, takes_never⟩
theorem Gd.nw (g : Gd C T F k X W) (t : Takes X NW) : Gd C T F k X NW := ⟨g.nd, g.calm, g.room, g.gl, g.bl, g.fn, t⟩
theorem pw_t {e : Expr} {t : TT} (h : PW X e t) : PT X e t := h.pt
theorem val_pt {e : Expr} {c : E} (h : PE X e (rdE X.K T F W c)) (he : ∀ whole, isTrue e X.env whole = (do let v ← whole; standAt e.pos; holding [v] (truthy v))) : PT X e (rdB X.K T F W c) := pt_val h he
theorem own_nm {N : List Str} {sc scope : Scope} {vs : List Nat} (h : blkC N sc scope (ownOf N vs) = true) : BlkOk N sc scope (ownOf N vs) := blkOk_by h
theorem sub_of {a b : List Nat} (h : a.all b.contains = true) : ∀ i ∈ a, i ∈ b := fun i hi => by
  have := List.all_eq_true.mp h i hi
  simpa using this
theorem dbg_of {x : Str} (h : (!dbg x) = true) : (x == ("__debug__" : Str)) = false := by simpa [dbg] using h
theorem pa_tysOk (g : Gd C T F k X W) : ∀ (ts : List Ty) (es : List Expr), tysOk X.env.scope ts es = true → PA X es (tTys ts) := fun ts es h => by
  have key : ∀ (ts : List Ty) (es : List Expr), tysOk X.env.scope ts es = true → es.length = ts.length ∧ ∀ (i : Nat) (t : Ty) (e : Expr), ts[i]? = some t → es[i]? = some e → ∃ p, e = .Name t.sn p ∧ Gl X t.sn ∧ X.mg t.sn = none := by
    intro ts
    induction ts with
    | nil =>
      intro es h
      cases es with
      | nil => exact ⟨rfl, fun i t e h => by simp at h⟩
      | cons e es => exact (Bool.false_ne_true h).elim
    | cons t ts ih =>
      intro es h
      cases es with
      | nil => exact (Bool.false_ne_true h).elim
      | cons e es =>
        cases e with
        | Name x p =>
          have h : (decide (x = t.sn) && isGl X.env.scope x && tysOk X.env.scope ts es) = true := h
          simp only [Bool.and_eq_true, decide_eq_true_eq] at h
          obtain ⟨⟨rfl, h2⟩, h3⟩ := h
          obtain ⟨l, q⟩ := ih es h3
          refine ⟨by simp [l], fun i t' e' e1 e2 => ?_⟩
          cases i with
          | zero =>
            simp at e1 e2
            subst e1 e2
            exact ⟨p, rfl, isGl_of h2, g.bl _ (by cases t <;> decide)⟩
          | succ i => exact q i t' e' (by simpa using e1) (by simpa using e2)
        | _ => exact (Bool.false_ne_true h).elim
  obtain ⟨l, q⟩ := key ts es h
  exact pa_tys ts es l q
theorem BF.in_ (b : BF) : b.nm ∈ bltNames := by cases b <;> decide
theorem Ty.in_ (t : Ty) : t.sn ∈ bltNames := by cases t <;> decide
end
/-! ### the theorem -/
section
variable {C : Ck} {T : Tab} {F : Nat → List PV → Mem → HP.R PV} {k : Nat}
set_option maxHeartbeats 20000000
mutual
theorem sE : ∀ (c : E) (e : Expr) (X : Cx) (W : WX), Gd C T F k X W → chkE C X.N X.fn X.env.scope c e = true → PE X e (rdE X.K T F W c) ∧ PT X e (rdB X.K T F W c)
  | .var i, e, X, W, g, h => by
    cases e with
    | Name x p =>
      have h : (decide (X.N[i]? = some x) && (isVis X.env.scope x && (!dbg x && !(x == ("__classdict__" : Str))))) = true := h
      simp only [Bool.and_eq_true, decide_eq_true_eq] at h
      have z := s_var (X := X) (T := T) (F := F) (W := W) (pos := p) h.1 (isVis_of h.2.1) (dbg_of h.2.2.1) (by simpa using h.2.2.2)
      exact ⟨z, val_pt z fun _ => rfl⟩
    | _ => exact (Bool.false_ne_true h).elim
  | .gl i, e, X, W, g, h => by
    cases e with
    | Name x p =>
      have h : (decide (C.gn[i]? = some x) && (isGl X.env.scope x && !dbg x)) = true := h
      simp only [Bool.and_eq_true, decide_eq_true_eq] at h
      obtain ⟨u, v, h1, h2, h3⟩ := g.gl i x h.1
      have z := s_gl (X := X) (T := T) (F := F) (W := W) (pos := p) (isGl_of h.2.1) h1 h2 (dbg_of h.2.2) h3
      exact ⟨z, val_pt z fun _ => rfl⟩
    | _ => exact (Bool.false_ne_true h).elim
  | .non, e, X, W, g, h => by
    cases e with
    | Constant c j p =>
      cases c with
      | none => exact ⟨s_non, val_pt s_non fun _ => rfl⟩
      | _ => exact (Bool.false_ne_true h).elim
    | _ => exact (Bool.false_ne_true h).elim
  | .bl b, e, X, W, g, h => by
    cases e with
    | Constant c j p =>
      cases c with
      | bool d =>
        have h : (b == d) = true := h
        have := beq_iff_eq.mp h
        subst this
        exact ⟨s_bl, val_pt s_bl fun _ => rfl⟩
      | _ => exact (Bool.false_ne_true h).elim
    | _ => exact (Bool.false_ne_true h).elim
  | .int i, e, X, W, g, h => by
    cases e with
    | Constant c j p =>
      cases c with
      | int d =>
        have := of_decide_eq_true (show decide (i = d) = true from h)
        subst this
        exact ⟨s_int, val_pt s_int fun _ => rfl⟩
      | _ => exact (Bool.false_ne_true h).elim
    | _ => exact (Bool.false_ne_true h).elim
  | .str s, e, X, W, g, h => by
    cases e with
    | Constant c j p =>
      cases c with
      | str d =>
        have := of_decide_eq_true (show decide (d = ⟨s.toArray⟩) = true from h)
        subst this
        exact ⟨s_str, val_pt s_str fun _ => rfl⟩
      | _ => exact (Bool.false_ne_true h).elim
    | _ => exact (Bool.false_ne_true h).elim
  | .bin m op a b, e, X, W, g, h => by
    cases e with
    | BinOp ea eo eb p =>
      have h : (decide (op = eo) && (chkE C X.N X.fn X.env.scope a ea && chkE C X.N X.fn X.env.scope b eb)) = true := h
      simp only [Bool.and_eq_true, decide_eq_true_eq] at h
      obtain ⟨rfl, h1, h2⟩ := h
      have z := s_bin (m := m) (op := op) (pos := p) (sE a ea X W g h1).1 (sE b eb X W g h2).1
      exact ⟨z, val_pt z fun _ => rfl⟩
    | _ => exact (Bool.false_ne_true h).elim
  | .cmp op a b, e, X, W, g, h => by
    cases e with
    | Compare ea ops es p =>
      match ops, es, h with
      | [o], [eb], h =>
        have h : (decide (op = o) && (!behindInMarks o eb && (chkE C X.N X.fn X.env.scope a ea && chkE C X.N X.fn X.env.scope b eb))) = true := h
        simp only [Bool.and_eq_true, decide_eq_true_eq, Bool.not_eq_true'] at h
        obtain ⟨rfl, h0, h1, h2⟩ := h
        exact ⟨s_cmp g.hu (sE a ea X W g h1).1 (sE b eb X W g h2).1 h0, t_cmp g.hu (sE a ea X W g h1).1 (sE b eb X W g h2).1 h0⟩
      | [], _, h => exact (Bool.false_ne_true h).elim
      | [_], [], h => exact (Bool.false_ne_true h).elim
      | [_], _ :: _ :: _, h => exact (Bool.false_ne_true h).elim
      | _ :: _ :: _, _, h => exact (Bool.false_ne_true h).elim
    | _ => exact (Bool.false_ne_true h).elim
  | .chn op op' a b c, e, X, W, g, h => by
    cases e with
    | Compare ea ops es p =>
      match ops, es, h with
      | [o, o'], [eb, ec], h =>
        have h : (decide (op = o) && (decide (op' = o') && (!lastMarks [o, o'] [eb, ec] && (chkE C X.N X.fn X.env.scope a ea && (chkE C X.N X.fn X.env.scope b eb && chkE C X.N X.fn X.env.scope c ec))))) = true := h
        simp only [Bool.and_eq_true, decide_eq_true_eq, Bool.not_eq_true'] at h
        obtain ⟨rfl, rfl, h0, h1, h2, h3⟩ := h
        exact ⟨s_chn g.hu (sE a ea X W g h1).1 (sE b eb X W g h2).1 (sE c ec X W g h3).1 h0, t_chn g.hu (sE a ea X W g h1).1 (sE b eb X W g h2).1 (sE c ec X W g h3).1 h0⟩
      | [], _, h => exact (Bool.false_ne_true h).elim
      | [_], _, h => exact (Bool.false_ne_true h).elim
      | [_, _], [], h => exact (Bool.false_ne_true h).elim
      | [_, _], [_], h => exact (Bool.false_ne_true h).elim
      | [_, _], _ :: _ :: _ :: _, h => exact (Bool.false_ne_true h).elim
      | _ :: _ :: _ :: _, _, h => exact (Bool.false_ne_true h).elim
    | _ => exact (Bool.false_ne_true h).elim
  | .conj es, e, X, W, g, h => by
    cases e with
    | BoolOp op l p =>
      cases op with
      | And => exact ⟨(sBa es l X W g h p).1, (sBa es l X W g h p).2.pt⟩
      | Or => exact (Bool.false_ne_true h).elim
    | _ => exact (Bool.false_ne_true h).elim
  | .disj es, e, X, W, g, h => by
    cases e with
    | BoolOp op l p =>
      cases op with
      | Or => exact ⟨(sBo es l X W g h p).1, (sBo es l X W g h p).2.pt⟩
      | And => exact (Bool.false_ne_true h).elim
    | _ => exact (Bool.false_ne_true h).elim
  | .not a, e, X, W, g, h => by
    cases e with
    | UnaryOp op ea p =>
      cases op with
      | Not => exact ⟨s_not (sE a ea X W g h).1, t_not (sE a ea X W g h).2⟩
      | _ => exact (Bool.false_ne_true h).elim
    | _ => exact (Bool.false_ne_true h).elim
  | .neg a, e, X, W, g, h => by
    cases e with
    | UnaryOp op ea p =>
      cases op with
      | USub =>
        have z := s_neg (pos := p) (sE a ea X W g h).1
        exact ⟨z, val_pt z fun _ => rfl⟩
      | _ => exact (Bool.false_ne_true h).elim
    | _ => exact (Bool.false_ne_true h).elim
  | .ife c a b, e, X, W, g, h => by
    cases e with
    | IfExp ec ea eb p =>
      have h : (chkE C X.N X.fn X.env.scope c ec && (chkE C X.N X.fn X.env.scope a ea && chkE C X.N X.fn X.env.scope b eb)) = true := h
      simp only [Bool.and_eq_true] at h
      exact ⟨s_ife (sE c ec X W g h.1).2 (sE a ea X W g h.2.1).1 (sE b eb X W g h.2.2).1, t_ife (sE c ec X W g h.1).2 (sE a ea X W g h.2.1).2 (sE b eb X W g h.2.2).2⟩
    | _ => exact (Bool.false_ne_true h).elim
  | .idx a b, e, X, W, g, h => by
    cases e with
    | Subscript ea eb p =>
      have h : (notSlice eb && (chkE C X.N X.fn X.env.scope a ea && chkE C X.N X.fn X.env.scope b eb)) = true := h
      simp only [Bool.and_eq_true] at h
      have z := s_idx (pos := p) g.hu (sE a ea X W g h.2.1).1 (sE b eb X W g h.2.2).1 (plainIx_of h.1)
      exact ⟨z, val_pt z fun _ => rfl⟩
    | _ => exact (Bool.false_ne_true h).elim
  | .slc m a lo hi, e, X, W, g, h => by
    cases e with
    | Subscript ea sl p =>
      cases sl with
      | Slice el eh st p2 =>
        cases st with
        | none =>
          have h : (chkE C X.N X.fn X.env.scope a ea && (chkP C X.N X.fn X.env.scope lo el && chkP C X.N X.fn X.env.scope hi eh)) = true := h
          simp only [Bool.and_eq_true] at h
          have z := s_slc (m := m) (pos := p) (p2 := p2) (sE a ea X W g h.1).1 (sP lo el X W g h.2.1) (sP hi eh X W g h.2.2)
          exact ⟨z, val_pt z fun _ => rfl⟩
        | some _ => exact (Bool.false_ne_true h).elim
      | _ => exact (Bool.false_ne_true h).elim
    | _ => exact (Bool.false_ne_true h).elim
  | .tup es, e, X, W, g, h => by
    cases e with
    | Tuple l kk p =>
      have z := s_tup (k := kk) (pos := p) (sL es l X W g h)
      exact ⟨z, val_pt z fun _ => rfl⟩
    | _ => exact (Bool.false_ne_true h).elim
  | .lst m es, e, X, W, g, h => by
    cases e with
    | List l p =>
      have z := s_lst (m := m) (pos := p) (sL es l X W g h)
      exact ⟨z, val_pt z fun _ => rfl⟩
    | _ => exact (Bool.false_ne_true h).elim
  | .dct m, e, X, W, g, h => by
    cases e with
    | Dict ks vs p =>
      match ks, vs, h with
      | [], [], h =>
        have z := s_dct (X := X) (T := T) (F := F) (W := W) (m := m) (pos := p)
        exact ⟨z, val_pt z fun _ => rfl⟩
      | [], _ :: _, h => exact (Bool.false_ne_true h).elim
      | _ :: _, _, h => exact (Bool.false_ne_true h).elim
    | _ => exact (Bool.false_ne_true h).elim
  | .bf1 m b a, e, X, W, g, h => by
    cases e with
    | Call f es kw p =>
      cases f with
      | Name x q =>
        match es, kw, h with
        | [ea], [], h =>
          have h : (decide (x = b.nm) && (isGl X.env.scope x && (notStar ea && chkE C X.N X.fn X.env.scope a ea))) = true := h
          simp only [Bool.and_eq_true, decide_eq_true_eq] at h
          obtain ⟨rfl, h1, h2, h3⟩ := h
          have z := s_bf1 (m := m) (p := q) (pos := p) g.calm (isGl_of h1) (g.bl _ b.in_) (sE a ea X W g h3).1 (star_no h2)
          exact ⟨z, val_pt z fun _ => rfl⟩
        | [], _, h => exact (Bool.false_ne_true h).elim
        | [_], _ :: _, h => exact (Bool.false_ne_true h).elim
        | _ :: _ :: _, _, h => exact (Bool.false_ne_true h).elim
      | _ => exact (Bool.false_ne_true h).elim
    | _ => exact (Bool.false_ne_true h).elim
  | .bf2 b a c, e, X, W, g, h => by
    cases e with
    | Call f es kw p =>
      cases f with
      | Name x q =>
        match es, kw, h with
        | [ea, ec], [], h =>
          have h : (decide (x = b.nm) && (isGl X.env.scope x && (notStar ea && (notStar ec && (chkE C X.N X.fn X.env.scope a ea && chkE C X.N X.fn X.env.scope c ec))))) = true := h
          simp only [Bool.and_eq_true, decide_eq_true_eq] at h
          obtain ⟨rfl, h1, h2, h3, h4, h5⟩ := h
          have z := s_bf2 (p := q) (pos := p) g.calm (isGl_of h1) (g.bl _ b.in_) (sE a ea X W g h4).1 (sE c ec X W g h5).1 (star_no h2) (star_no h3)
          exact ⟨z, val_pt z fun _ => rfl⟩
        | [], _, h => exact (Bool.false_ne_true h).elim
        | [_], _, h => exact (Bool.false_ne_true h).elim
        | [_, _], _ :: _, h => exact (Bool.false_ne_true h).elim
        | _ :: _ :: _ :: _, _, h => exact (Bool.false_ne_true h).elim
      | _ => exact (Bool.false_ne_true h).elim
    | _ => exact (Bool.false_ne_true h).elim
  | .isT a true [], e, X, W, g, h => by cases e <;> exact (Bool.false_ne_true h).elim
  | .isT a true (t :: t2 :: ts), e, X, W, g, h => by cases e <;> exact (Bool.false_ne_true h).elim
  | .isT a true [t], e, X, W, g, h => by
    cases e with
    | Call f es kw p =>
      cases f with
      | Name x q =>
        rcases es with _ | ⟨ea, _ | ⟨e2, _ | ⟨e3, es⟩⟩⟩ <;> rcases kw with _ | ⟨k1, kw⟩ <;> try exact (Bool.false_ne_true h).elim
        all_goals (cases e2 <;> try exact (Bool.false_ne_true h).elim)
        rename_i y q2
        have h : (decide (x = "isinstance") && (isGl X.env.scope x && (decide (y = t.sn) && (isGl X.env.scope y && (notStar ea && chkE C X.N X.fn X.env.scope a ea))))) = true := h
        simp only [Bool.and_eq_true, decide_eq_true_eq] at h
        obtain ⟨rfl, h1, rfl, h2, h3, h4⟩ := h
        have z := s_isT1 (p := q) (p1 := q2) (pos := p) (isGl_of h1) (g.bl _ (by decide)) (isGl_of h2) (g.bl _ t.in_) (sE a ea X W g h4).1 (star_no h3)
        exact ⟨z, val_pt z fun _ => rfl⟩
      | _ => exact (Bool.false_ne_true h).elim
    | _ => exact (Bool.false_ne_true h).elim
  | .isT a false ts, e, X, W, g, h => by
    cases e with
    | Call f es kw p =>
      cases f with
      | Name x q =>
        rcases es with _ | ⟨ea, _ | ⟨e2, _ | ⟨e3, es⟩⟩⟩ <;> rcases kw with _ | ⟨k1, kw⟩ <;> try exact (Bool.false_ne_true h).elim
        all_goals (cases e2 <;> try exact (Bool.false_ne_true h).elim)
        rename_i es kk q2
        have h : (decide (x = "isinstance") && (isGl X.env.scope x && (tysOk X.env.scope ts es && (Nat.ble ts.length 100 && (notStar ea && chkE C X.N X.fn X.env.scope a ea))))) = true := h
        simp only [Bool.and_eq_true, decide_eq_true_eq] at h
        obtain ⟨rfl, h1, h2, h3, h4, h5⟩ := h
        have hl : ts.length ≤ sizeLine := by rw [big_eq]; exact Nat.le_trans (Nat.le_of_ble_eq_true h3) (by decide)
        have z := s_isTT (k := kk) (p := q) (p1 := q2) (pos := p) hl (isGl_of h1) (g.bl _ (by decide)) (pa_tysOk g ts es h2) (sE a ea X W g h5).1 (star_no h4)
        exact ⟨z, val_pt z fun _ => rfl⟩
      | _ => exact (Bool.false_ne_true h).elim
    | _ => exact (Bool.false_ne_true h).elim
  | .call j .nil, e, X, W, g, h => by
    cases e with
    | Call f l kw p =>
      cases f with
      | Name x q =>
        rcases l with _ | ⟨ea, l⟩
        · rcases kw with _ | ⟨k1, kw⟩
          · have h : (decide (C.fns[j]? = some x) && (isGl X.env.scope x && !dbg x)) = true := h
            simp only [Bool.and_eq_true, decide_eq_true_eq] at h
            obtain ⟨h0, h1, h2⟩ := h
            obtain ⟨f, fd, ps, A⟩ := g.fn j x h0
            have z := s_call0 (p := q) (pos := p) A g.tk g.room (isGl_of h1) (dbg_of h2)
            exact ⟨z, val_pt z fun _ => rfl⟩
          · exact (Bool.false_ne_true h).elim
        · rcases kw with _ | ⟨k1, kw⟩
          · have h : (decide (C.fns[j]? = some x) && (isGl X.env.scope x && (!dbg x && ((ea :: l).all notStar && false)))) = true := h
            simp only [Bool.and_false, Bool.false_ne_true] at h
            exact (Bool.false_ne_true h).elim
          · exact (Bool.false_ne_true h).elim
      | _ => exact (Bool.false_ne_true h).elim
    | _ => exact (Bool.false_ne_true h).elim
  | .call j (.cons a0 es0), e, X, W, g, h => by
    cases e with
    | Call f l kw p =>
      cases f with
      | Name x q =>
        rcases l with _ | ⟨ea, l⟩ <;> rcases kw with _ | ⟨k1, kw⟩ <;> try exact (Bool.false_ne_true h).elim
        have h : (decide (C.fns[j]? = some x) && (isGl X.env.scope x && (!dbg x && ((ea :: l).all notStar && chkL C X.N X.fn X.env.scope (.cons a0 es0) (ea :: l))))) = true := h
        simp only [Bool.and_eq_true, decide_eq_true_eq] at h
        obtain ⟨h0, h1, h2, h3, h4⟩ := h
        obtain ⟨f, fd, ps, A⟩ := g.fn j x h0
        have z := s_call (p := q) (pos := p) A g.tk g.room (isGl_of h1) (sL (.cons a0 es0) (ea :: l) X W g h4) (dbg_of h2) h3
        exact ⟨z, val_pt z fun _ => rfl⟩
      | _ => exact (Bool.false_ne_true h).elim
    | _ => exact (Bool.false_ne_true h).elim
  | .call j (.star a0 es0), e, X, W, g, h => by
    cases e with
    | Call f l kw p =>
      cases f with
      | Name x q =>
        rcases l with _ | ⟨ea, l⟩ <;> rcases kw with _ | ⟨k1, kw⟩ <;> try exact (Bool.false_ne_true h).elim
        have h : (decide (C.fns[j]? = some x) && (isGl X.env.scope x && (!dbg x && ((ea :: l).all notStar && chkL C X.N X.fn X.env.scope (.star a0 es0) (ea :: l))))) = true := h
        simp only [Bool.and_eq_true, decide_eq_true_eq] at h
        obtain ⟨h0, h1, h2, h3, h4⟩ := h
        obtain ⟨f, fd, ps, A⟩ := g.fn j x h0
        have z := s_call (p := q) (pos := p) A g.tk g.room (isGl_of h1) (sL (.star a0 es0) (ea :: l) X W g h4) (dbg_of h2) h3
        exact ⟨z, val_pt z fun _ => rfl⟩
      | _ => exact (Bool.false_ne_true h).elim
    | _ => exact (Bool.false_ne_true h).elim
  | .callK j es ks perm, e, X, W, g, h => by
    cases e with
    | Call f l kw p =>
      cases f with
      | Name x q =>
        have h : (decide (C.fns[j]? = some x) && (isGl X.env.scope x && (!dbg x && (l.all notStar && (chkL C X.N X.fn X.env.scope es l && (chkK C X.N X.fn X.env.scope ks kw && (match kwNames kw with
          | some kn => decide (kn.length = ks.len) && (C.kws j).any fun q => decide (q.1 = es.len) && (decide (q.2.1 = kn) && decide (q.2.2 = perm))
          | none => false))))))) = true := h
        simp only [Bool.and_eq_true, decide_eq_true_eq] at h
        obtain ⟨h0, h1, h2, h3, h4, h5, h6⟩ := h
        obtain ⟨f, fd, ps, A⟩ := g.fn j x h0
        cases hk : kwNames kw with
        | none => rw [hk] at h6; cases h6
        | some kn =>
          rw [hk] at h6
          simp only [Bool.and_eq_true, decide_eq_true_eq] at h6
          obtain ⟨⟨n0, a, b⟩, hin, hq⟩ := List.any_eq_true.mp h6.2
          simp only [Bool.and_eq_true, decide_eq_true_eq] at hq
          obtain ⟨rfl, rfl, rfl⟩ := hq
          rcases l with _ | ⟨ea, l⟩
          · rcases es with _ | ⟨_, _⟩ | ⟨_, _⟩ <;> try exact (Bool.false_ne_true h4).elim
            have z := s_callK0 (p := q) (pos := p) A hin h6.1 g.tk g.room (isGl_of h1) (sK ks kw X W g h5) hk (dbg_of h2)
            exact ⟨z, val_pt z fun _ => rfl⟩
          · have z := s_callK (p := q) (pos := p) A hin h6.1 g.tk g.room (isGl_of h1) (sL es (ea :: l) X W g h4) (sK ks kw X W g h5) hk (dbg_of h2) h3
            exact ⟨z, val_pt z fun _ => rfl⟩
      | _ => exact (Bool.false_ne_true h).elim
    | _ => exact (Bool.false_ne_true h).elim
  | .mth f a b, e, X, W, g, h => by
    cases e with
    | Call fe l kw p =>
      cases fe with
      | Attribute ea n ap =>
        rcases l with _ | ⟨eb, _ | ⟨e2, l⟩⟩ <;> rcases kw with _ | ⟨k1, kw⟩ <;> try exact (Bool.false_ne_true h).elim
        have h : (decide (n = f.nm) && (notCall ea && ((ap.endLine == p.line) && (notStar eb && (chkE C X.N X.fn X.env.scope a ea && chkE C X.N X.fn X.env.scope b eb))))) = true := h
        simp only [Bool.and_eq_true, decide_eq_true_eq] at h
        obtain ⟨rfl, h1, h2, h3, h4, h5⟩ := h
        have z := s_mth (f := f) (apos := ap) (pos := p) g.hu (sE a ea X W g h4).1 (sE b eb X W g h5).1 (attr_no' h1 _) h2 (star_no h3)
        exact ⟨z, val_pt z fun _ => rfl⟩
      | _ => exact (Bool.false_ne_true h).elim
    | _ => exact (Bool.false_ne_true h).elim
  | .lc m vs tg it cs elt, e, X, W, g, h => by
    cases e with
    | ListComp eelt gens scope p =>
      rcases gens with _ | ⟨⟨etg, ei, ifs, asy⟩, _ | ⟨⟨etg2, ei2, ifs2, asy2⟩, gens⟩⟩
      · exact (Bool.false_ne_true h).elim
      · rcases asy with (_ | n) | n <;> try exact (Bool.false_ne_true h).elim
        have h : (blkC X.N X.env.scope scope (ownOf X.N vs) && (tg.ids.all vs.contains && (notSet ei && (chkI C X.N X.fn X.env.scope it etg ei && (chkT X.N (blkFn scope) (relS scope X.env.scope) tg etg && (chkC C X.N (blkFn scope) (relS scope X.env.scope) cs ifs && chkE C X.N (blkFn scope) (relS scope X.env.scope) elt eelt)))))) = true := h
        simp only [Bool.and_eq_true] at h
        obtain ⟨h1, h2, h3, h4, h5, h6, h7⟩ := h
        have z := s_lc (m := m) (pos := p) g.calm g.nd (by rw [ownOf_snd]; exact sub_of h2) (ownOf_snd X.N vs).symm (sI it etg ei X W g h4) (sI it etg ei X NW (g.nw takes_never) h4) (own_nm h1)
          (fun s H C' cl fp => s_ty (X := X.blk s H scope (compEnvC scope cl C' X.env) fp) g.nd g.calm tg etg h5) (fun s H C' cl fp => sC cs ifs _ NW g.blk h6) (fun s H C' cl fp => (sE elt eelt _ NW g.blk h7).1) (notSet_of h3 X.env)
        exact ⟨z, val_pt z fun _ => rfl⟩
      · rcases asy with (_ | n) | n <;> exact (Bool.false_ne_true h).elim
    | _ => exact (Bool.false_ne_true h).elim
  | .lc2 m vs vs1 tg it cs tg1 it1 cs1 elt, e, X, W, g, h => by
    cases e with
    | ListComp eelt gens scope p =>
      rcases gens with _ | ⟨⟨etg, ei, ifs, asy⟩, _ | ⟨⟨etg1, ei1, ifs1, asy1⟩, _ | ⟨g3, gens⟩⟩⟩
      · exact (Bool.false_ne_true h).elim
      · rcases asy with (_ | n) | n <;> exact (Bool.false_ne_true h).elim
      · rcases asy with (_ | n) | n <;> try exact (Bool.false_ne_true h).elim
        rcases asy1 with (_ | n) | n <;> try exact (Bool.false_ne_true h).elim
        have h : (blkC X.N X.env.scope scope (ownOf X.N vs) && (tg.ids.all vs.contains && (tg1.ids.all vs1.contains && (vs1.all vs.contains && (notSet ei && (notSet ei1 && (chkI C X.N X.fn X.env.scope it etg ei && (chkT X.N (blkFn scope) (relS scope X.env.scope) tg etg && (chkC C X.N (blkFn scope) (relS scope X.env.scope) cs ifs &&
          (chkI C X.N (blkFn scope) (relS scope X.env.scope) it1 etg1 ei1 && (chkT X.N (blkFn scope) (relS scope X.env.scope) tg1 etg1 && (chkC C X.N (blkFn scope) (relS scope X.env.scope) cs1 ifs1 && chkE C X.N (blkFn scope) (relS scope X.env.scope) elt eelt)))))))))))) = true := h
        simp only [Bool.and_eq_true] at h
        obtain ⟨h1, h2, h3, h4, h5, h6, h7, h8, h9, h10, h11, h12, h13⟩ := h
        have z := s_lc2 (m := m) (pos := p) g.calm g.nd (by rw [ownOf_snd]; exact sub_of h2) (sub_of h3) (ownOf_snd X.N vs).symm (by rw [ownOf_snd]; exact sub_of h4) (sI it etg ei X W g h7) (own_nm h1)
          (fun s H C' cl fp => s_ty (X := X.blk s H scope (compEnvC scope cl C' X.env) fp) g.nd g.calm tg etg h8) (fun s H C' cl fp => sC cs ifs _ NW g.blk h9) (fun s H C' cl fp => sI it1 etg1 ei1 _ NW g.blk h10)
          (fun s H C' cl fp => s_ty (X := X.blk s H scope (compEnvC scope cl C' X.env) fp) g.nd g.calm tg1 etg1 h11) (fun s H C' cl fp => sC cs1 ifs1 _ NW g.blk h12) (fun s H C' cl fp => (sE elt eelt _ NW g.blk h13).1) (notSet_of h5 X.env) (fun env => notSet_of h6 env)
        exact ⟨z, val_pt z fun _ => rfl⟩
      · rcases asy with (_ | n) | n <;> first | exact (Bool.false_ne_true h).elim | (rcases asy1 with (_ | n) | n <;> exact (Bool.false_ne_true h).elim)
    | _ => exact (Bool.false_ne_true h).elim
  | .srtS m vs tg it cs elt, e, X, W, g, h => by
    cases e with
    | Call f l kw p =>
      cases f with
      | Name x q =>
        rcases l with _ | ⟨ea, _ | ⟨e2, l⟩⟩
        · exact (Bool.false_ne_true h).elim
        rotate_left
        · cases ea <;> first | exact (Bool.false_ne_true h).elim | skip
          rename_i eelt gens scope p2
          rcases gens with _ | ⟨⟨etg, ei, ifs, asy⟩, _ | ⟨⟨etg2, ei2, ifs2, asy2⟩, gens⟩⟩
          · exact (Bool.false_ne_true h).elim
          · rcases asy with (_ | n) | n <;> exact (Bool.false_ne_true h).elim
          · rcases asy with (_ | n) | n <;> exact (Bool.false_ne_true h).elim
        cases ea with
        | SetComp eelt gens scope p2 =>
          rcases gens with _ | ⟨⟨etg, ei, ifs, asy⟩, _ | ⟨⟨etg2, ei2, ifs2, asy2⟩, gens⟩⟩
          · exact (Bool.false_ne_true h).elim
          · rcases asy with (_ | n) | n <;> try exact (Bool.false_ne_true h).elim
            rcases kw with _ | ⟨k1, kw⟩
            rotate_left
            · exact (Bool.false_ne_true h).elim
            have h : (decide (x = "sorted") && (isGl X.env.scope x && (blkC X.N X.env.scope scope (ownOf X.N vs) && (tg.ids.all vs.contains && (notSet ei && (chkI C X.N X.fn X.env.scope it etg ei && (chkT X.N (blkFn scope) (relS scope X.env.scope) tg etg && (chkC C X.N (blkFn scope) (relS scope X.env.scope) cs ifs && chkE C X.N (blkFn scope) (relS scope X.env.scope) elt eelt)))))))) = true := h
            simp only [Bool.and_eq_true, decide_eq_true_eq] at h
            obtain ⟨rfl, h0, h1, h2, h3, h4, h5, h6, h7⟩ := h
            have z := s_srt (m := m) (p := q) (pos := p) (pos2 := p2) g.calm g.nd (isGl_of h0) (g.bl _ (by decide)) (by rw [ownOf_snd]; exact sub_of h2) (ownOf_snd X.N vs).symm (sI it etg ei X W g h4) (own_nm h1)
              (fun s H C' cl fp => s_ty (X := X.blk s H scope (compEnvC scope cl C' X.env) fp) g.nd g.calm tg etg h5) (fun s H C' cl fp => sC cs ifs _ NW g.blk h6) (fun s H C' cl fp => (sE elt eelt _ NW g.blk h7).1) (notSet_of h3 X.env)
            exact ⟨z, val_pt z fun _ => rfl⟩
          · rcases asy with (_ | n) | n <;> exact (Bool.false_ne_true h).elim
        | _ => exact (Bool.false_ne_true h).elim
      | _ => exact (Bool.false_ne_true h).elim
    | _ => exact (Bool.false_ne_true h).elim
theorem sL : ∀ (es : EL) (l : List Expr) (X : Cx) (W : WX), Gd C T F k X W → chkL C X.N X.fn X.env.scope es l = true → PA X l (rdA X.K T F W es)
  | .nil, l, X, W, g, h => by
    rcases l with _ | ⟨e, l⟩
    · exact a_nil
    · exact (Bool.false_ne_true h).elim
  | .cons a r, l, X, W, g, h => by
    rcases l with _ | ⟨e, l⟩
    · exact (Bool.false_ne_true h).elim
    · have h : (notStar e && (chkE C X.N X.fn X.env.scope a e && chkL C X.N X.fn X.env.scope r l)) = true := h
      simp only [Bool.and_eq_true] at h
      exact a_cons (sE a e X W g h.2.1).1 (sL r l X W g h.2.2) (star_no h.1)
  | .star a r, l, X, W, g, h => by
    rcases l with _ | ⟨e, l⟩
    · exact (Bool.false_ne_true h).elim
    · cases e with
      | Starred e p =>
        have h : (chkE C X.N X.fn X.env.scope a e && chkL C X.N X.fn X.env.scope r l) = true := h
        simp only [Bool.and_eq_true] at h
        exact a_star (sE a e X W g h.1).1 (sL r l X W g h.2)
      | _ => exact (Bool.false_ne_true h).elim
theorem sK : ∀ (es : EL) (l : List Keyword) (X : Cx) (W : WX), Gd C T F k X W → chkK C X.N X.fn X.env.scope es l = true → PK X l (rdA X.K T F W es)
  | .nil, l, X, W, g, h => by
    rcases l with _ | ⟨e, l⟩
    · exact k_nil
    · exact (Bool.false_ne_true h).elim
  | .cons a r, l, X, W, g, h => by
    rcases l with _ | ⟨⟨n, e, p⟩, l⟩
    · exact (Bool.false_ne_true h).elim
    · have h : (chkE C X.N X.fn X.env.scope a e && chkK C X.N X.fn X.env.scope r l) = true := h
      simp only [Bool.and_eq_true] at h
      exact k_cons (sE a e X W g h.1).1 (sK r l X W g h.2)
  | .star a r, l, X, W, g, h => by
    rcases l with _ | ⟨⟨n, e, p⟩, l⟩ <;> exact (Bool.false_ne_true h).elim
theorem sBa : ∀ (es : EL) (l : List Expr) (X : Cx) (W : WX), Gd C T F k X W → chkB C X.N X.fn X.env.scope es l = true → ∀ p, PE X (.BoolOp .And l p) (rdE X.K T F W (.conj es)) ∧ PW X (.BoolOp .And l p) (rdB X.K T F W (.conj es))
  | .nil, l, X, W, g, h, p => by cases l <;> exact (Bool.false_ne_true h).elim
  | .star _ _, l, X, W, g, h, p => by cases l <;> exact (Bool.false_ne_true h).elim
  | .cons a .nil, l, X, W, g, h, p => by
    rcases l with _ | ⟨e, _ | ⟨e2, l⟩⟩
    · exact (Bool.false_ne_true h).elim
    · have z := sE a e X W g h
      exact ⟨s_and1 z.1, w_and1 z.2⟩
    · have h : (chkE C X.N X.fn X.env.scope a e && chkB C X.N X.fn X.env.scope .nil (e2 :: l)) = true := h
      rw [Bool.and_eq_true] at h
      exact (Bool.false_ne_true h.2).elim
  | .cons a (.star b r), l, X, W, g, h, p => by
    rcases l with _ | ⟨e, l⟩
    · exact (Bool.false_ne_true h).elim
    · have h : (chkE C X.N X.fn X.env.scope a e && chkB C X.N X.fn X.env.scope (.star b r) l) = true := h
      rw [Bool.and_eq_true] at h
      cases l <;> exact (Bool.false_ne_true h.2).elim
  | .cons a (.cons b r), l, X, W, g, h, p => by
    rcases l with _ | ⟨e, l⟩
    · exact (Bool.false_ne_true h).elim
    · have h : (chkE C X.N X.fn X.env.scope a e && chkB C X.N X.fn X.env.scope (.cons b r) l) = true := h
      rw [Bool.and_eq_true] at h
      have z := sE a e X W g h.1
      have y := sBa (.cons b r) l X W g h.2 p
      rcases l with _ | ⟨e2, l⟩
      · cases r <;> exact (Bool.false_ne_true h.2).elim
      · exact ⟨s_and2 z.1 y.1, w_and2 z.2 y.2⟩
theorem sBo : ∀ (es : EL) (l : List Expr) (X : Cx) (W : WX), Gd C T F k X W → chkB C X.N X.fn X.env.scope es l = true → ∀ p, PE X (.BoolOp .Or l p) (rdE X.K T F W (.disj es)) ∧ PW X (.BoolOp .Or l p) (rdB X.K T F W (.disj es))
  | .nil, l, X, W, g, h, p => by cases l <;> exact (Bool.false_ne_true h).elim
  | .star _ _, l, X, W, g, h, p => by cases l <;> exact (Bool.false_ne_true h).elim
  | .cons a .nil, l, X, W, g, h, p => by
    rcases l with _ | ⟨e, _ | ⟨e2, l⟩⟩
    · exact (Bool.false_ne_true h).elim
    · have z := sE a e X W g h
      exact ⟨s_or1 z.1, w_or1 z.2⟩
    · have h : (chkE C X.N X.fn X.env.scope a e && chkB C X.N X.fn X.env.scope .nil (e2 :: l)) = true := h
      rw [Bool.and_eq_true] at h
      exact (Bool.false_ne_true h.2).elim
  | .cons a (.star b r), l, X, W, g, h, p => by
    rcases l with _ | ⟨e, l⟩
    · exact (Bool.false_ne_true h).elim
    · have h : (chkE C X.N X.fn X.env.scope a e && chkB C X.N X.fn X.env.scope (.star b r) l) = true := h
      rw [Bool.and_eq_true] at h
      cases l <;> exact (Bool.false_ne_true h.2).elim
  | .cons a (.cons b r), l, X, W, g, h, p => by
    rcases l with _ | ⟨e, l⟩
    · exact (Bool.false_ne_true h).elim
    · have h : (chkE C X.N X.fn X.env.scope a e && chkB C X.N X.fn X.env.scope (.cons b r) l) = true := h
      rw [Bool.and_eq_true] at h
      have z := sE a e X W g h.1
      have y := sBo (.cons b r) l X W g h.2 p
      rcases l with _ | ⟨e2, l⟩
      · cases r <;> exact (Bool.false_ne_true h.2).elim
      · exact ⟨s_or2 z.1 y.1, w_or2 z.2 y.2⟩
theorem sC : ∀ (es : EL) (l : List Expr) (X : Cx) (W : WX), Gd C T F k X W → chkC C X.N X.fn X.env.scope es l = true → PTs X l (rdC X.K T F W es)
  | .nil, l, X, W, g, h => by
    rcases l with _ | ⟨e, l⟩
    · exact PTs.imp pts_nil fun σ H Q ⟨ρ, μ, ps, hm, hs, o⟩ => o ρ H .refl hm
    · exact (Bool.false_ne_true h).elim
  | .cons a .nil, l, X, W, g, h => by
    rcases l with _ | ⟨e, _ | ⟨e2, l⟩⟩
    · exact (Bool.false_ne_true h).elim
    · refine PTs.imp (pts_one (sE a e X W g h).2) fun σ H Q ⟨ρ, μ, ps, hm, hs, o⟩ => ⟨ρ, μ, ps, hm, hs, ?_⟩
      simp only [evAll] at o
      refine (outG_bind o).imp fun x H1 ⟨ρ1, μ1, p, s1, m1, r1, o1⟩ => ?_
      split at o1
      · cases r1; exact ⟨_, rfl, o1 ρ1 H1 .refl m1⟩
      · exact o1.elim
    · exact (Bool.false_ne_true h).elim
  | .cons a (.cons b r), l, X, W, g, h => by
    rcases l with _ | ⟨e, _ | ⟨e2, l⟩⟩ <;> exact (Bool.false_ne_true h).elim
  | .cons a (.star b r), l, X, W, g, h => by
    rcases l with _ | ⟨e, _ | ⟨e2, l⟩⟩ <;> exact (Bool.false_ne_true h).elim
  | .star _ _, l, X, W, g, h => by cases l <;> exact (Bool.false_ne_true h).elim
theorem sP : ∀ (es : EL) (o : Option Expr) (X : Cx) (W : WX), Gd C T F k X W → chkP C X.N X.fn X.env.scope es o = true → PO X o (rdP X.K T F W es)
  | .nil, o, X, W, g, h => by
    cases o with
    | none => exact o_nil
    | some e => exact (Bool.false_ne_true h).elim
  | .cons a .nil, o, X, W, g, h => by
    cases o with
    | none => exact (Bool.false_ne_true h).elim
    | some e => exact o_one (sE a e X W g h).1
  | .cons a (.cons b r), o, X, W, g, h => by cases o <;> exact (Bool.false_ne_true h).elim
  | .cons a (.star b r), o, X, W, g, h => by cases o <;> exact (Bool.false_ne_true h).elim
  | .star _ _, o, X, W, g, h => by cases o <;> exact (Bool.false_ne_true h).elim
theorem sI : ∀ (it : I) (tg e : Expr) (X : Cx) (W : WX), Gd C T F k X W → chkI C X.N X.fn X.env.scope it tg e = true → PI X tg e (rdI X.K T F W it)
  | .over a, tg, e, X, W, g, h => i_over (sE a e X W g h).1
  | .rng1 a, tg, e, X, W, g, h => by
    cases e with
    | Call f l kw p =>
      cases f with
      | Name x q =>
        rcases l with _ | ⟨ea, _ | ⟨e2, l⟩⟩ <;> rcases kw with _ | ⟨k1, kw⟩ <;> try exact (Bool.false_ne_true h).elim
        have h : (decide (x = "range") && (isGl X.env.scope x && (notStar ea && chkE C X.N X.fn X.env.scope a ea))) = true := h
        simp only [Bool.and_eq_true, decide_eq_true_eq] at h
        obtain ⟨rfl, h1, h2, h3⟩ := h
        exact i_rng1 (isGl_of h1) (g.bl _ (by decide)) (sE a ea X W g h3).1 (star_no h2)
      | _ => exact (Bool.false_ne_true h).elim
    | _ => exact (Bool.false_ne_true h).elim
  | .rng2 a b, tg, e, X, W, g, h => by
    cases e with
    | Call f l kw p =>
      cases f with
      | Name x q =>
        rcases l with _ | ⟨ea, _ | ⟨eb, _ | ⟨e3, l⟩⟩⟩ <;> rcases kw with _ | ⟨k1, kw⟩ <;> try exact (Bool.false_ne_true h).elim
        have h : (decide (x = "range") && (isGl X.env.scope x && (notStar ea && (notStar eb && (chkE C X.N X.fn X.env.scope a ea && chkE C X.N X.fn X.env.scope b eb))))) = true := h
        simp only [Bool.and_eq_true, decide_eq_true_eq] at h
        obtain ⟨rfl, h1, h2, h3, h4, h5⟩ := h
        exact i_rng2 (isGl_of h1) (g.bl _ (by decide)) (sE a ea X W g h4).1 (sE b eb X W g h5).1 (star_no h3) (star_no h2)
      | _ => exact (Bool.false_ne_true h).elim
    | _ => exact (Bool.false_ne_true h).elim
  | .enu a, tg, e, X, W, g, h => by
    cases tg with
    | Tuple elts kk tp =>
      cases e with
      | Call f l kw p =>
        cases f with
        | Name x q =>
          rcases l with _ | ⟨ea, _ | ⟨e2, l⟩⟩ <;> rcases kw with _ | ⟨k1, kw⟩ <;> try exact (Bool.false_ne_true h).elim
          have h : (decide (x = "enumerate") && (isGl X.env.scope x && (notStar ea && chkE C X.N X.fn X.env.scope a ea))) = true := h
          simp only [Bool.and_eq_true, decide_eq_true_eq] at h
          obtain ⟨rfl, h1, h2, h3⟩ := h
          exact i_enu (isGl_of h1) (g.bl _ (by decide)) (sE a ea X W g h3).1 (star_no h2)
        | _ => exact (Bool.false_ne_true h).elim
      | _ => exact (Bool.false_ne_true h).elim
    | _ => exact (Bool.false_ne_true h).elim
  | .zip a b, tg, e, X, W, g, h => by
    cases tg with
    | Tuple elts kk tp =>
      cases e with
      | Call f l kw p =>
        cases f with
        | Name x q =>
          rcases l with _ | ⟨ea, _ | ⟨eb, _ | ⟨e3, l⟩⟩⟩ <;> rcases kw with _ | ⟨k1, kw⟩ <;> try exact (Bool.false_ne_true h).elim
          have h : (decide (x = "zip") && (isGl X.env.scope x && (notStar ea && (notStar eb && (chkE C X.N X.fn X.env.scope a ea && chkE C X.N X.fn X.env.scope b eb))))) = true := h
          simp only [Bool.and_eq_true, decide_eq_true_eq] at h
          obtain ⟨rfl, h1, h2, h3, h4, h5⟩ := h
          exact i_zip (isGl_of h1) (g.bl _ (by decide)) (sE a ea X W g h4).1 (sE b eb X W g h5).1 (star_no h3) (star_no h2)
        | _ => exact (Bool.false_ne_true h).elim
      | _ => exact (Bool.false_ne_true h).elim
    | _ => exact (Bool.false_ne_true h).elim
end
end
end HP
set_option Elab.async false
set_option linter.all false
set_option maxRecDepth 100000
set_option maxHeartbeats 4000000
namespace HP
open PySem PySem.Spec PyProof.Rows L2

/-! ### statements -/
def OutF (K : PySem.W.Frag) (T : Tab) (ρ : Rho) (H : Hp) (r : Fl) (D : Ends) (W : WX) (n : Nat) : Prop :=
  match r with
  | .nx ps μ => ∀ ρ' H' σ', Step ρ H ρ' H' → MemOk K ρ' H' μ → StR K ρ' H' ps σ' → σ'.length = n → D.nx σ' H'
  | .rt p μ => ∀ ρ' H' v, Step ρ H ρ' H' → MemOk K ρ' H' μ → Rep K ρ' H' p v → D.rt v H'
  | .exc c x μ => ∀ ρ' H' d v σ', Step ρ H ρ' H' → MemOk K ρ' H' μ → H' d = some (.xd [(T.att c, v)]) → Rep K ρ' H' x v → σ'.length = n → W (.ref (T.ca c)) (some d) σ' H'
  | .bad => False
section
variable {K : PySem.W.Frag} {T : Tab} {ρ ρ' : Rho} {H H' : Hp} {D D' : Ends} {W : WX} {n : Nat}
theorem OutF.step {r : Fl} (s : Step ρ H ρ' H') (o : OutF K T ρ H r D W n) : OutF K T ρ' H' r D W n := by
  cases r with
  | nx ps μ => exact fun ρ2 H2 σ2 t => o ρ2 H2 σ2 (s.trans t)
  | rt p μ => exact fun ρ2 H2 v t => o ρ2 H2 v (s.trans t)
  | exc c x μ => exact fun ρ2 H2 d v σ2 t => o ρ2 H2 d v σ2 (s.trans t)
  | bad => exact o
theorem fl_bind {r : HP.R PV} {f : PV → Mem → Fl} {σ : L2.St} (hn : σ.length = n) (o : OutF K T ρ H (r.fl f) D W n) :
    Out K ρ H r (fun v H' => ∃ ρ' μ' p, Step ρ H ρ' H' ∧ MemOk K ρ' H' μ' ∧ Rep K ρ' H' p v ∧ OutF K T ρ' H' (f p μ') D W n) (WS W T σ) T.att := by
  cases r with
  | ok p μ => exact fun ρ2 H2 v t m r => ⟨ρ2, μ, p, t, m, r, OutF.step t o⟩
  | exc c x μ => exact fun ρ2 H2 d v t m e r => o ρ2 H2 d v σ t m e r hn
  | bad => exact o
theorem fl_bindG {α : Type} {r : HP.R α} {f : α → Mem → Fl} {σ : L2.St} (hn : σ.length = n) (o : OutF K T ρ H (r.fl f) D W n) :
    OutG K ρ H r (fun a μ' ρ' H' => Step ρ H ρ' H' ∧ MemOk K ρ' H' μ' ∧ OutF K T ρ' H' (f a μ') D W n) (WS W T σ) T.att := by
  cases r with
  | ok p μ => exact fun ρ2 H2 t m => ⟨t, m, OutF.step t o⟩
  | exc c x μ => exact fun ρ2 H2 d v t m e r => o ρ2 H2 d v σ t m e r hn
  | bad => exact o
/-- a statement, then more -/
theorem fl_seq {r : Fl} {f : PSt → Mem → Fl} (o : OutF K T ρ H (r.fl f) D W n) :
    OutF K T ρ H r { D with nx := fun σ' H' => σ'.length = n ∧ ∃ ρ' μ' ps', Step ρ H ρ' H' ∧ MemOk K ρ' H' μ' ∧ StR K ρ' H' ps' σ' ∧ OutF K T ρ' H' (f ps' μ') D W n } W n := by
  cases r with
  | nx ps μ => exact fun ρ2 H2 σ2 t m s l => ⟨l, ρ2, μ, ps, t, m, s, OutF.step t o⟩
  | rt p μ => exact o
  | exc c x μ => exact o
  | bad => exact o
end
section
variable (K : PySem.W.Frag) (T : Tab) (sub : Nat → Nat → Option Bool) (atts : Nat → List Nat) (F : Nat → List PV → Mem → HP.R PV) (W : WX)
def rdS (s : S) : TS := fun D σ H => ∃ ρ μ ps, MemOk K ρ H μ ∧ StR K ρ H ps σ ∧ OutF K T ρ H (evS T.G sub atts F s ps μ) D W σ.length
def rdSL (s : SL) : TS := fun D σ H => ∃ ρ μ ps, MemOk K ρ H μ ∧ StR K ρ H ps σ ∧ OutF K T ρ H (evSL T.G sub atts F s ps μ) D W σ.length
end
theorem PSs.imp {X : Cx} {e : List Stmt} {t t' : TS} (h : PSs X e t) (i : ∀ D σ H, t' D σ H → t D σ H) : PSs X e t' := ⟨fun pins s σ H D I hw => h.run pins s σ H D I (i _ _ _ hw)⟩
theorem PE.ex {X : Cx} {e : Expr} {α : Sort _} {t : α → TE} (h : ∀ a, PE X e (t a)) : PE X e (fun σ H Q => ∃ a, t a σ H Q) := ⟨fun pins s σ H Q I ⟨a, hw⟩ => (h a).run pins s σ H Q I hw⟩
section
variable {X : Cx} {T : Tab} {sub : Nat → Nat → Option Bool} {atts : Nat → List Nat} {F : Nat → List PV → Mem → HP.R PV} {W : WX}
theorem z_nil : PSs X [] (rdSL X.K T sub atts F W .nil) := PSs.imp pss_nil fun D σ H ⟨ρ, μ, ps, hm, hs, o⟩ => o ρ H σ .refl hm hs rfl
theorem z_cons {a : S} {r : SL} {st : Stmt} {rest : List Stmt} (h1 : PS X st (rdS X.K T sub atts F W a)) (h2 : PSs X rest (rdSL X.K T sub atts F W r)) : PSs X (st :: rest) (rdSL X.K T sub atts F W (.cons a r)) :=
  PSs.imp (pss_cons h1 h2) fun D σ H ⟨ρ, μ, ps, hm, hs, o⟩ => ⟨ρ, μ, ps, hm, hs, by
    simp only [evSL] at o
    have o1 := fl_seq o
    cases hr : evS T.G sub atts F a ps μ with
    | nx ps2 μ2 =>
      rw [hr] at o1
      intro ρ2 H2 σ2 s2 m2 r2 l2
      obtain ⟨l, ρ3, μ3, ps3, s3, m3, r3, o3⟩ := o1 ρ2 H2 σ2 s2 m2 r2 l2
      exact ⟨ρ3, μ3, ps3, m3, r3, by rw [l2]; exact o3⟩
    | rt p μ2 => rw [hr] at o1; exact o1
    | exc c x μ2 => rw [hr] at o1; exact o1
    | bad => rw [hr] at o1; exact o1⟩
theorem z_doc {x : Str} {j : Nat} {pos pos' : Pos} : PS X (.Expr (.Constant (.str x) j pos) pos') (rdS X.K T sub atts F W .doc) := PS.imp ps_doc fun D σ H ⟨ρ, μ, ps, hm, hs, o⟩ => o ρ H σ .refl hm hs rfl
theorem z_ret {a : E} {e : Expr} {pos : Pos} (he : PE X e (rdE X.K T F W a)) : PS X (.Return (some e) pos) (rdS X.K T sub atts F W (.ret a)) :=
  PS.imp (ps_ret he) fun D σ H ⟨ρ, μ, ps, hm, hs, o⟩ => ⟨ρ, μ, ps, hm, hs, by
    simp only [evS] at o
    exact (fl_bind rfl o).imp fun v H1 ⟨ρ1, μ1, p, s1, m1, r1, o1⟩ => o1 ρ1 H1 v .refl m1 r1⟩
theorem asg_imp {i : Nat} {a : E} {D : Ends} {σ : L2.St} {H : Hp} (h : rdS X.K T sub atts F W (.asg i a) D σ H) : rdE X.K T F W a σ H fun v H' => D.nx (σ.set i (some v)) H' := by
  obtain ⟨ρ, μ, ps, hm, hs, o⟩ := h
  simp only [evS] at o
  exact ⟨ρ, μ, ps, hm, hs, (fl_bind rfl o).imp fun v H1 ⟨ρ1, μ1, p, s1, m1, r1, o1⟩ => o1 ρ1 H1 _ .refl m1 ((hs.step s1).set r1 i) (by simp)⟩
theorem z_asg {i : Nat} {x : Str} {a : E} {e : Expr} {pos pos' : Pos} (hN : X.N.Nodup) (hi : X.N[i]? = some x) (hx : Loc X.env.scope x) (hf : X.fn x = true ∨ X.env.scope.names.lookup x = some .local) (he : PE X e (rdE X.K T F W a)) (hs : swapsWith e (some (.Name x pos')) pos.line X.env = pure false) :
    PS X (.Assign [.Name x pos'] e pos) (rdS X.K T sub atts F W (.asg i a)) := PS.imp (ps_set hN hi hx he hs hf) fun D σ H h => asg_imp h
theorem z_expr {a : E} {e : Expr} {pos : Pos} (he : PE X e (rdE X.K T F W a)) (hs : swapsWith e none pos.line X.env = pure false) : PS X (.Expr e pos) (rdS X.K T sub atts F W (.expr a)) :=
  PS.imp (ps_expr he hs) fun D σ H ⟨ρ, μ, ps, hm, hs, o⟩ => ⟨ρ, μ, ps, hm, hs, by
    simp only [evS] at o
    exact (fl_bind rfl o).imp fun v H1 ⟨ρ1, μ1, p, s1, m1, r1, o1⟩ => o1 ρ1 H1 _ .refl m1 (hs.step s1) rfl⟩
theorem z_asgT {t : TG} {a : E} {et e : Expr} {pos : Pos} (ht : PG X et (gT X.K t)) (he : PE X e (rdE X.K T F W a)) (hs : swapsWithSole [et] e pos.line X.env = pure false) (hw : swappedStores [et] e X.env = pure none) (h1 : (assignEach [et] X.env).map (·.2) = [assign et X.env]) :
    PS X (.Assign [et] e pos) (rdS X.K T sub atts F W (.asgT t a)) :=
  PS.imp (ps_asg he ht hs hw h1) fun D σ H ⟨ρ, μ, ps, hm, hs, o⟩ => ⟨ρ, μ, ps, hm, hs, by
    simp only [evS] at o
    refine (fl_bind rfl o).imp fun v H1 ⟨ρ1, μ1, p, s1, m1, r1, o1⟩ => ?_
    split at o1
    · rename_i ps' eb
      exact ⟨ρ1, μ1, ps, p, ps', m1, hs.step s1, r1, eb, fun σ' r' sm => o1 ρ1 H1 σ' .refl m1 r' sm.1.symm⟩
    · exact o1.elim⟩
theorem z_if {c : E} {a b : SL} {ec : Expr} {ea eb : List Stmt} {pos : Pos} (hc : PT X ec (rdB X.K T F W c)) (ha : PSs X ea (rdSL X.K T sub atts F W a)) (hb : PSs X eb (rdSL X.K T sub atts F W b)) : PS X (.If ec ea eb pos) (rdS X.K T sub atts F W (.ife c a b)) :=
  PS.imp (ps_if hc ha hb) fun D σ H ⟨ρ, μ, ps, hm, hs, o⟩ => ⟨ρ, μ, ps, hm, hs, by
    simp only [evS] at o
    refine (fl_bind rfl o).imp fun v H1 ⟨ρ1, μ1, p, s1, m1, r1, o1⟩ => ?_
    split at o1
    · cases r1
      refine ⟨true, rfl, ?_⟩
      simp only [if_true]
      exact ⟨ρ1, μ1, ps, m1, hs.step s1, o1⟩
    · cases r1
      refine ⟨false, rfl, ?_⟩
      simp only [Bool.false_eq_true, if_false]
      exact ⟨ρ1, μ1, ps, m1, hs.step s1, o1⟩
    · exact o1.elim⟩
theorem z_for {tg : TG} {it : I} {b : SL} {et ei : Expr} {eb : List Stmt} {pos : Pos} (hp : PassesOwn (model X.prog X.w) X.A X.env X.xe) (hc : X.calm = true) (hi : PI X et ei (rdI X.K T F W it)) (hg : PG X et (gY X.K tg)) (hb : PSs X eb (rdSL X.K T sub atts F W b)) (hs : ∀ x, foldedSetIterable ei X.env x = pure x) :
    PS X (.For et ei eb [] pos) (rdS X.K T sub atts F W (.for tg it b)) :=
  PS.imp (ps_for hp hc hi hg hb hs) fun D σ0 H0 ⟨ρ0, μ0, ps0, hm0, hs0, o0⟩ => ⟨ρ0, μ0, ps0, hm0, hs0, by
    simp only [evS] at o0
    refine (fl_bindG rfl o0).imp fun jt μ1 ρ1 H1 ⟨s1, m1, o1⟩ ρ2 H2 J s2 m2 hj => ?_
    let Wi : Nat → Nat → L2.St → Hp → Prop := fun i m σ H => ∃ ρ μ ps it', MemOk X.K ρ H μ ∧ StR X.K ρ H ps σ ∧ ItR X.K ρ H it' J i ∧ σ.length = σ0.length ∧ OutF X.K T ρ H (forGo tg (fun σ μ => evSL T.G sub atts F b σ μ) m it' ps μ) D W σ0.length
    refine ⟨Wi, ⟨big, ρ2, μ1, ps0, jt, m2, hs0.step (s1.trans s2), hj, rfl, OutF.step s2 o1⟩, ?_⟩
    rintro i m σ H ⟨ρ, μ, ps, it', hm, hs, hj, hl, o⟩
    cases m with
    | zero => exact o.elim
    | succ f =>
      simp only [forGo] at o
      cases hn : it'.next μ with
      | none => rw [hn] at o; exact o.elim
      | some q =>
        rw [hn] at o
        cases q with
        | none => exact .inl ⟨hj.stop hm hn, o ρ H σ .refl hm hs hl⟩
        | some q =>
          obtain ⟨y, it2⟩ := q
          obtain ⟨hgo, hyld⟩ := hj.next hm hn
          refine .inr ⟨hgo, fun σ' H' => ∃ m', m' < f + 1 ∧ Wi (i + 1) m' σ' H', fun _ _ h => h, fun x H' hy => ?_⟩
          obtain ⟨s3, m3, ry, j3⟩ := hyld x H' hy
          simp only at o
          cases hb : bindY tg y ps with
          | none => rw [hb] at o; exact o.elim
          | some ps' =>
            rw [hb] at o
            simp only at o
            refine ⟨ρ, μ, ps, y, ps', m3, hs.step s3, ry, hb, fun σ2 r2 sm => ⟨ρ, μ, ps', m3, r2, ?_⟩⟩
            have hl2 : σ2.length = σ0.length := sm.1.symm.trans hl
            have o1 := fl_seq (OutF.step s3 o)
            rw [hl2]
            cases hr : evSL T.G sub atts F b ps' μ with
            | nx ps4 μ4 =>
              rw [hr] at o1
              intro ρ4 H4 σ4 s4 m4 r4 l4
              obtain ⟨l5, ρ5, μ5, ps5, s5, m5, r5, o5⟩ := o1 ρ4 H4 σ4 s4 m4 r4 l4
              -- the state is the one at hand
              have o6 : OutF X.K T ρ4 H4 (forGo tg (fun σ μ => evSL T.G sub atts F b σ μ) f it2 ps4 μ4) D W σ0.length := by
                have := OutF.step (s3.trans s4) o
                rw [hr] at this
                exact this
              exact ⟨f, Nat.lt_succ_self f, ρ4, μ4, ps4, it2, m4, r4, j3.step s4, l4, o6⟩
            | rt p μ4 => rw [hr] at o1; exact o1
            | exc c x μ4 => rw [hr] at o1; exact o1
            | bad => rw [hr] at o1; exact o1⟩
/-! item stores -/
theorem kv_keys : ∀ {ks : List (Key × V)} {vs : List (Key × Value)}, KV ks vs → ks.map (·.1) = vs.map (·.1) := by
  intro ks
  induction ks with
  | nil => intro vs h; cases h; rfl
  | cons k ks ih =>
    intro vs h
    cases h with
    | cons h t => simp only [List.map_cons, h.1, ih t]
def rSetQ (K : PySem.W.Frag) : TSet := fun o i v H Q => ∃ ρ μ p q x μ', MemOk K ρ H μ ∧ Rep K ρ H p o ∧ Rep K ρ H q i ∧ Rep K ρ H x v ∧ setQ p q x μ = some μ' ∧ ∀ H', Step ρ H ρ H' → MemOk K ρ H' μ' → Q H'
theorem set_q (hu : X.A.units + 1 < cLine) : PSet X (rSetQ X.K) := by
  intro pins s σ H o i v ov iv u Q I ro ri rv ⟨ρ, μ, p, q, x, μ', hm, hp, hq, hx, e, h⟩
  unfold setQ at e
  split at e
  · rename_i n
    cases hp with
    | @ref _ a ea =>
      obtain ⟨mo, e1, mr⟩ := hm.all _ _ ea
      rw [e1] at e
      cases mr with
      | @lst _ xs vs he rl =>
        simp only at e
        split at e
        · rename_i k
          cases hq
          split at e
          · rename_i j hj
            cases e
            refine set_list pins s σ H _ _ _ ov iv u Q I ro ri rv ⟨a, vs, k, j, rfl, rfl, he, by rw [← rl.length]; exact hj, ?_⟩
            have sl : Step ρ H ρ (upd H a (.lst (vs.set j v))) := step_set (List.mem_of_getElem? ea) fun o u z => by rw [he] at z; cases z
            exact h _ sl (hm.setA ea (.lst upd_same ((rl.step sl).set (hx.step sl) j)))
          · cases e
        · cases e
      | @dct _ kvs ks he rk =>
        simp only at e
        split at e
        · rename_i c
          simp only [Bool.and_eq_true] at c
          cases e
          obtain ⟨k, ek, rfl⟩ := isKey_rep hq c.1
          have hle : ks.length < sizeLine := by rw [big_eq, ← rk.length]; exact Nat.le_of_ble_eq_true c.2
          refine set_dict hu pins s σ H _ _ _ ov iv u Q I ro ri rv ⟨a, _, rfl, DPut.k he hle, ?_⟩
          have nd : (ks.map (·.1)).Nodup := by
            obtain ⟨_, _, vs, kv, _, _, _, _, _, _, _, _, nd⟩ := I.hok a _ he
            rw [kv_keys kv]
            exact nd
          have sl : Step ρ H ρ (upd H a (.dK (putK ks k v))) := step_set (List.mem_of_getElem? ea) fun o u z => by rw [he] at z; cases z
          exact h _ sl (hm.setA ea (.dct upd_same (put_rep ek (hx.step sl) nd (rk.step sl))))
        · cases e
      | lck _ _ => simp at e
  · cases e
end
end HP
set_option Elab.async false
set_option linter.all false
set_option maxRecDepth 100000
set_option maxHeartbeats 4000000
namespace HP
open PySem PySem.Spec PyProof.Rows L2

/-- what an own exception's __init__ does -/
def spI (K : PySem.W.Frag) (C : Addr) (f : Str) : Sp := fun vs H Q E => ∃ a v, vs = [.ref a, v] ∧ H a = some (exo a C none) ∧ ∀ dx, H dx = none → dx ≠ a → Q .non (upd (upd H dx (exd dx [(f, v)])) a (exo a C (some dx)))
structure ClsAt (X : Cx) (T : Tab) (c : Nat) (x : Str) (fI : Addr) (fd : FuncData) (ps : List Str) : Prop where
  mg : X.mg x = some (.ref (T.ca c))
  ox : OexC X.K (T.ca c)
  iC : PySem.W.findIn X.K (.ref (T.ca c)) "__init__" = some (some (.ref fI))
  tI : PySem.W.typeIn X.K (.ref fI) = some (.type "function")
  bd : Binds X.K fd ps []
  ok : FnOk X.prog X.w X.K X.mg X.base (L2.CX X.prog X.w) 2 fI fd ps (spI X.K (T.ca c) (T.att c))
section
variable {X : Cx} {T : Tab} {sub : Nat → Nat → Option Bool} {atts : Nat → List Nat} {F : Nat → List PV → Mem → HP.R PV} {W : WX} {k : Nat}
theorem z_raise {c : Nat} {x : Str} {fI : Addr} {fd : FuncData} {pnm : List Str} {a : E} {ea : Expr} {p pos2 pos : Pos} (A : ClsAt X T c x fI fd pnm) (hc : X.calm = true) (tk : Takes X W) (hr : Room k X.A) (h3 : 3 ≤ k) (hg : Gl X x) (hd : (x == ("__debug__" : Str)) = false) (ha : PE X ea (rdE X.K T F W a)) (hs : starEach [ea] X.env = (false, eval ea X.env) :: starEach [] X.env) :
    PS X (.Raise (some (.Call (.Name x p) [ea] [] pos2)) none pos) (rdS X.K T sub atts F W (.raise c a)) := by
  have never : Passes (L2.CX X.prog X.w) X (fun _ _ _ => False) := fun pins σ H s e s' I ⟨_, _, _, _, _, _, _, _, _, _, _, _, z⟩ => z.elim
  refine PS.imp (ps_raise hc tk (pmk_oex (ds := []) (dvs := []) A.ox A.iC A.tI A.ok (hr.mono (by omega)) A.bd .nil never hg A.mg (pa_cons ha pa_nil hs) hd hs rfl)) fun D σ H ⟨ρ, μ, ps, hm, hs, o⟩ => ⟨ρ, μ, ps, hm, hs, ?_⟩
  simp only [evS] at o
  refine (fl_bind rfl o).imp fun v H1 ⟨ρ1, μ1, q, s1, m1, r1, o1⟩ => ⟨by simp, fun b hb => ⟨b, v, rfl, upd_same, fun dx hdx hne => ⟨rfl, dx, [(T.att c, v)], upd_same, ?_, ?_, ?_⟩⟩⟩
  · rw [upd_ne hne, upd_same]
  · rwa [upd_ne hne] at hdx
  · have hdx' : H1 dx = none := by rwa [upd_ne hne] at hdx
    have e : upd (del (upd (upd (upd H1 b (exo b (T.ca c) none)) dx (exd dx [(T.att c, v)])) b (exo b (T.ca c) (some dx))) b) dx (.xd [(T.att c, v)]) = upd H1 dx (.xd [(T.att c, v)]) := by
      funext z
      by_cases z1 : z = dx
      · subst z1; rw [upd_same, upd_same]
      · rw [upd_ne z1, upd_ne z1]
        by_cases z2 : z = b
        · subst z2; rw [del_same, hb]
        · rw [del_ne z2, upd_ne z2, upd_ne z1, upd_ne z2]
    rw [e]
    exact o1 ρ1 _ dx v σ (step_new hdx') (m1.new hdx') upd_same (r1.step (step_new hdx')) rfl
/-! ### a caught error -/
/-- isinstance(e, c), e the exception that the suite holds, with a dict of its own -/
theorem call_isD {a C dd : Addr} {oe : Obj} {pn : List (Addr × Obj)} {d : Option Addr} (A : L2.ExcC X.K C) (hcl : (PySem.W.clsIn X.K C).isSome = true) (hz : Zc (.ref C) d oe) (hf : ∃ vs, oe.data = .fields vs) :
    CallR (X.suite a ((a, oe) :: pn)) (.builtin "isinstance") (fun xs H Q => ∃ (c : V) (cv : Value) (b : Bool) (fs : List (Str × V)), d = some dd ∧ H dd = some (.xd fs) ∧ xs = [.ref a, c] ∧ (∀ u, RelV c u → u = cv) ∧ PySem.W.kitOne X.K (.ref C) cv = some b ∧ Q (.bl b) H) := by
  rintro pins s σ H xs us Q I r ⟨c, cv, b, fs, rfl, hx, rfl, hcv, e, q⟩
  cases r with
  | cons rx rr =>
    cases rr with
    | cons rt rr =>
      cases rr
      cases rx
      cases hcv _ rt
      obtain ⟨hget, _⟩ := I.pin (a, oe) (List.mem_append.mpr (.inl List.mem_cons_self))
      obtain ⟨vs, hv⟩ := hf
      obtain ⟨mA, hns, _⟩ : ObjOk X.prog X.w H s.heap dd (.xd fs) := I.hok dd _ hx
      obtain ⟨od, hod⟩ : ∃ o, s.heap.get? dd = some o := by
        obtain ⟨_, _, _, e, _⟩ := hns
        exact ⟨_, e⟩
      have J : PySem.W.InstAt s.heap a oe C (some od) := by
        obtain ⟨oc, odd, oda, osl⟩ := oe
        obtain ⟨h1, h2⟩ := hz
        dsimp only at h1 h2 hv
        subst h1 h2 hv
        exact ⟨hget, rfl, rfl, hod⟩
      exact PySem.W.kia_one (PySem.W.kitx_exc hcl A.hg A.hk A.hs A.ha A.hn A.ht A.hm) I.kIn J e (fun z => nomatch z) fun tk => ⟨.bl b, H, I.kept (t' := tk) fun _ _ z => z, rfl, q⟩
/-- what is known of the classes of the caught -/
structure SubAt (K : PySem.W.Frag) (T : Tab) (sub : Nat → Nat → Option Bool) (atts : Nat → List Nat) : Prop where
  ex : ∀ c d b, sub c d = some b → PySem.W.exmOne K (.ref (T.ca c)) (.ref (T.ca d)) = some b ∧ PySem.W.kitOne K (.ref (T.ca c)) (.ref (T.ca d)) = some b
  ec : ∀ c d b, sub c d = some b → L2.ExcC K (T.ca c) ∧ (PySem.W.clsIn K (T.ca c)).isSome = true ∧ XfC K (T.ca c) ∧ PySem.W.findIn K (.ref (T.ca c)) (T.att c) = some none
  at_ : ∀ c, T.att c = ⟨(atts c).toArray⟩
/-- the state in the suite -/
structure Hot (T : Tab) (c : Nat) (a dd : Addr) (v : V) (i : Nat) (σ : L2.St) (H : Hp) : Prop where
  xd : H dd = some (.xd [(T.att c, v)])
  nm : σ[i]? = some (some (.ref a))
def hotV (sub : Nat → Nat → Option Bool) (c : Nat) (v : V) : HI → V
  | .str s => .str ⟨s.toArray⟩
  | .att _ => v
  | .isE d => .bl ((sub c d).getD false)
theorem hot_rep {K : PySem.W.Frag} {ρ : Rho} {H : Hp} {c : Nat} {x : PV} {v : V} (r : Rep K ρ H x v) : ∀ (hs : List HI) (ps : List PV), hotQs sub atts c x hs = some ps → RepL K ρ H ps (hs.map (hotV sub c v)) := by
  intro hs
  induction hs with
  | nil => intro ps e; cases e; exact .nil
  | cons h hs ih =>
    intro ps e
    simp only [hotQs] at e
    cases e1 : hotQ sub atts c x h with
    | none => rw [e1] at e; cases e
    | some p =>
      rw [e1] at e
      cases e2 : hotQs sub atts c x hs with
      | none => rw [e2] at e; cases e
      | some qs =>
        rw [e2] at e
        cases e
        refine .cons ?_ (ih _ e2)
        cases h with
        | str s => cases e1; exact .str s
        | att s =>
          simp only [hotQ] at e1
          split at e1
          · cases e1; exact r
          · cases e1
        | isE d =>
          simp only [hotQ] at e1
          cases e3 : sub c d with
          | none => rw [e3] at e1; cases e1
          | some b =>
            rw [e3] at e1
            cases e1
            show Rep K ρ H (.bl b) (.bl ((sub c d).getD false))
            rw [e3]; exact .bl b
/-- one item of the suite's answer -/
def tHot (T : Tab) (sub : Nat → Nat → Option Bool) (atts : Nat → List Nat) (a : Addr) (cls : Value) (d : Option Addr) (i : Nat) (h : HI) : TE := fun σ H Q => ∃ c dd v p x, cls = .ref (T.ca c) ∧ d = some dd ∧ (∃ e b, sub c e = some b) ∧ Hot T c a dd v i σ H ∧ hotQ sub atts c x h = some p ∧ Q (hotV sub c v h) H
def tHots (T : Tab) (sub : Nat → Nat → Option Bool) (atts : Nat → List Nat) (a : Addr) (cls : Value) (d : Option Addr) (i : Nat) (hs : List HI) : TA := fun σ H Q => ∃ c dd v ps x, cls = .ref (T.ca c) ∧ d = some dd ∧ (∃ e b, sub c e = some b) ∧ Hot T c a dd v i σ H ∧ hotQs sub atts c x hs = some ps ∧ Q (hs.map (hotV sub c v)) H
end
def chkH (cn : List Str) (nm : Str) (sc : Scope) : HI → Expr → Bool
  | .str s, .Constant (.str x) _ _ => decide (x = ⟨s.toArray⟩)
  | .att s, .Attribute (.Name x _) f _ => decide (x = nm) && decide (f = ⟨s.toArray⟩)
  | .isE d, .Call (.Name y _) [.Name x _, .Name z _] [] _ => decide (y = "isinstance") && (isGl sc y && (decide (x = nm) && (decide (cn[d]? = some z) && (isGl sc z && !dbg z))))
  | _, _ => false
def chkHs (cn : List Str) (nm : Str) (sc : Scope) : List HI → List Expr → Bool
  | [], [] => true
  | h :: hs, e :: es => notStar e && (chkH cn nm sc h e && chkHs cn nm sc hs es)
  | _, _ => false
section
variable {X : Cx} {T : Tab} {sub : Nat → Nat → Option Bool} {atts : Nat → List Nat} {F : Nat → List PV → Mem → HP.R PV} {W : WX} {k : Nat}
theorem h_one {cn : List Str} {nm : Str} {i : Nat} {a : Addr} {oe : Obj} {cls : Value} {d : Option Addr} {pn : List (Addr × Obj)} (B : SubAt X.K T sub atts) (hcn : ∀ c x, cn[c]? = some x → X.mg x = some (.ref (T.ca c))) (hbi : X.mg "isinstance" = none) (hi : X.N[i]? = some nm) (hv : Vis X.env.scope nm) (hnd : (nm == ("__debug__" : Str)) = false) (hncd : (nm == ("__classdict__" : Str)) = false)
    (hz : Zc cls d oe) (hf : ∃ vs, oe.data = .fields vs) (h : HI) (e : Expr) (hc : chkH cn nm X.env.scope h e = true) : PE (X.suite a ((a, oe) :: pn)) e (tHot T sub atts a cls d i h) := by
  have pv : ∀ {p : Pos}, PE (X.suite a ((a, oe) :: pn)) (.Name nm p) (tVar i) := fun {p} => pe_var (X := X.suite a ((a, oe) :: pn)) hi hv hnd hncd
  cases h with
  | str s =>
    cases e with
    | Constant c j p =>
      cases c with
      | str x =>
        have := of_decide_eq_true (show decide (x = ⟨s.toArray⟩) = true from hc)
        subst this
        exact PE.imp pe_str fun σ H Q ⟨c, dd, v, p, x, e1, e2, e0, e3, e4, q⟩ => q
      | _ => exact (Bool.false_ne_true hc).elim
    | _ => exact (Bool.false_ne_true hc).elim
  | att s =>
    cases e with
    | Attribute eo f p =>
      cases eo with
      | Name x q =>
        have hc : (decide (x = nm) && decide (f = ⟨s.toArray⟩)) = true := hc
        simp only [Bool.and_eq_true, decide_eq_true_eq] at hc
        obtain ⟨rfl, rfl⟩ := hc
        refine PE.imp (PE.ex (α := { c : Nat // ∃ e b, sub c e = some b ∧ T.att c = ⟨s.toArray⟩ }) (t := fun z => tXf a cls d (T.ca z.1) ⟨s.toArray⟩ (tVar i)) fun ⟨c, e, b, e0, ea⟩ => ?_) fun σ H Q ⟨c, dd, v, p', x', e1, e2, ⟨e, b, e0⟩, e3, e4, q⟩ => ?_
        · exact pe_xf (C := T.ca c) (cls := cls) (d := d) (B.ec c e b e0).2.2.1 (by rw [← ea]; exact (B.ec c e b e0).2.2.2) hz hf pv (attr_no' rfl _)
        · simp only [hotQ] at e4
          split at e4
          · rename_i es
            have ea : T.att c = ⟨s.toArray⟩ := by rw [B.at_ c, ← beq_iff_eq.mp es]
            refine ⟨⟨c, e, b, e0, ea⟩, _, e3.nm, rfl, e1, dd, _, v, e2, e3.xd, ?_, q⟩
            rw [← ea]; simp [List.lookup]
          · cases e4
      | _ => exact (Bool.false_ne_true hc).elim
    | _ => exact (Bool.false_ne_true hc).elim
  | isE dcl =>
    cases e with
    | Call fe l kw p =>
      cases fe with
      | Name y q =>
        rcases l with _ | ⟨e1, _ | ⟨e2, _ | ⟨e3, l⟩⟩⟩
        · exact (Bool.false_ne_true hc).elim
        · cases e1 <;> exact (Bool.false_ne_true hc).elim
        · cases e1 with
          | Name x q1 =>
            cases e2 with
            | Name z q2 =>
              rcases kw with _ | ⟨k1, kw⟩
              · have hc : (decide (y = "isinstance") && (isGl X.env.scope y && (decide (x = nm) && (decide (cn[dcl]? = some z) && (isGl X.env.scope z && !dbg z))))) = true := hc
                simp only [Bool.and_eq_true, decide_eq_true_eq] at hc
                obtain ⟨rfl, h1, rfl, h2, h3, h4⟩ := hc
                have pz : PE (X.suite a ((a, oe) :: pn)) (.Name z q2) (tC (.ref (T.ca dcl))) := pe_glob (X := X.suite a ((a, oe) :: pn)) (isGl_of (X := X) h3) (hcn _ _ h2) rfl (dbg_of h4)
                refine PE.imp (PE.ex (α := { c : Nat × Addr // ∃ e b, sub c.1 e = some b ∧ cls = .ref (T.ca c.1) }) (t := fun z => tCB (fun xs H Q => ∃ (c : V) (cv : Value) (b : Bool) (fs : List (Str × V)), d = some z.1.2 ∧ H z.1.2 = some (.xd fs) ∧ xs = [.ref a, c] ∧ (∀ u, RelV c u → u = cv) ∧ PySem.W.kitOne X.K (.ref (T.ca z.1.1)) cv = some b ∧ Q (.bl b) H) (tCons (tVar i) (tCons (tC (.ref (T.ca dcl))) tNil))) fun ⟨⟨c, dd⟩, e, b, e0, ec⟩ => ?_) fun σ H Q ⟨c, dd, v, p', x', e1, e2, ⟨e, b, e0⟩, e3, e4, q⟩ => ?_
                · subst ec
                  exact pe_callB (X := X.suite a ((a, oe) :: pn)) (call_isD (dd := dd) (B.ec c e b e0).1 (B.ec c e b e0).2.1 hz hf) (isGl_of (X := X) h1) hbi (by decide +kernel) (pa_cons pv (pa_cons pz pa_nil rfl) rfl) (by decide) (by decide) rfl rfl
                · simp only [hotQ] at e4
                  cases e5 : sub c dcl with
                  | none => rw [e5] at e4; cases e4
                  | some b' =>
                    refine ⟨⟨(c, dd), e, b, e0, e1⟩, _, e3.nm, .ref (T.ca dcl), .ref (T.ca dcl), b', _, e2, e3.xd, rfl, fun u hu => hu, (B.ex c dcl b' e5).2, ?_⟩
                    have q : Q (.bl ((sub c dcl).getD false)) H := q
                    rw [e5] at q
                    exact q
              · exact (Bool.false_ne_true hc).elim
            | _ => exact (Bool.false_ne_true hc).elim
          | _ => exact (Bool.false_ne_true hc).elim
        · cases e1 with
          | Name x q1 => cases e2 <;> exact (Bool.false_ne_true hc).elim
          | _ => exact (Bool.false_ne_true hc).elim
      | _ => exact (Bool.false_ne_true hc).elim
    | _ => exact (Bool.false_ne_true hc).elim
end
end HP
set_option Elab.async false
set_option linter.all false
set_option maxRecDepth 100000
set_option maxHeartbeats 4000000
namespace HP
open PySem PySem.Spec PyProof.Rows L2

section
variable {X : Cx} {T : Tab} {sub : Nat → Nat → Option Bool} {atts : Nat → List Nat} {F : Nat → List PV → Mem → HP.R PV} {W : WX} {k : Nat}
theorem h_all {cn : List Str} {nm : Str} {i : Nat} {a : Addr} {oe : Obj} {cls : Value} {d : Option Addr} {pn : List (Addr × Obj)} (B : SubAt X.K T sub atts) (hcn : ∀ c x, cn[c]? = some x → X.mg x = some (.ref (T.ca c))) (hbi : X.mg "isinstance" = none) (hi : X.N[i]? = some nm) (hv : Vis X.env.scope nm) (hnd : (nm == ("__debug__" : Str)) = false) (hncd : (nm == ("__classdict__" : Str)) = false)
    (hz : Zc cls d oe) (hf : ∃ vs, oe.data = .fields vs) : ∀ (hs : List HI) (es : List Expr), chkHs cn nm X.env.scope hs es = true → PA (X.suite a ((a, oe) :: pn)) es (tHots T sub atts a cls d i hs) := by
  intro hs
  induction hs with
  | nil =>
    intro es h
    cases es with
    | nil => exact PA.imp pa_nil fun σ H Q ⟨c, dd, v, ps, x, e1, e2, e0, e3, e4, q⟩ => q
    | cons _ _ => exact (Bool.false_ne_true h).elim
  | cons h hs ih =>
    intro es hc
    cases es with
    | nil => exact (Bool.false_ne_true hc).elim
    | cons e es =>
      have hc : (notStar e && (chkH cn nm X.env.scope h e && chkHs cn nm X.env.scope hs es)) = true := hc
      simp only [Bool.and_eq_true] at hc
      refine PA.imp (pa_cons (h_one B hcn hbi hi hv hnd hncd hz hf h e hc.2.1) (ih es hc.2.2) (star_no hc.1)) fun σ H Q ⟨c, dd, v, ps, x, e1, e2, e0, e3, e4, q⟩ => ?_
      simp only [hotQs] at e4
      cases e5 : hotQ sub atts c x h with
      | none => rw [e5] at e4; cases e4
      | some p =>
        rw [e5] at e4
        cases e6 : hotQs sub atts c x hs with
        | none => rw [e6] at e4; cases e4
        | some qs => exact ⟨c, dd, v, p, x, e1, e2, e0, e3, e5, c, dd, v, qs, x, e1, e2, e0, e3, e6, q⟩
theorem z_try {cn : List Str} {nm : Str} {i d : Nat} {b : SL} {hs : List HI} {x : Str} {body : List Stmt} {es : List Expr} {np p1 p2 p3 pos : Pos} (B : SubAt X.K T sub atts) (hcn : ∀ c x, cn[c]? = some x → X.mg x = some (.ref (T.ca c))) (hbi : X.mg "isinstance" = none)
    (stk : X.stack = X.env :: X.outer) (frm : X.env.frame = some X.env.locals) (hN : X.N.Nodup) (hi : X.N[i]? = some nm) (hln : X.env.scope.names.lookup nm = some .local) (hnd : (nm == ("__debug__" : Str)) = false) (hncd : (nm == ("__classdict__" : Str)) = false) (hx : cn[d]? = some x) (hg : Gl X x) (hxd : (x == ("__debug__" : Str)) = false) (tk : Takes X W)
    (hb : ∀ (W : WX) (pn : List (Addr × Obj)) (xe : Value → Shared → Prop), Takes (X.tr pn xe) W → PassesOwn (model X.prog X.w) X.A X.env xe → PSs (X.tr pn xe) body (rdSL X.K T sub atts F W b))
    (hc : chkHs cn nm X.env.scope hs es = true) : PS X (.Try body [.ExceptHandler (some (.Name x np)) (some nm) [.Return (some (.List es p1)) p2] p3] [] [] pos) (rdS X.K T sub atts F W (.try1 b d i hs)) := by
  have suite : ∀ (a : Addr) (oe : Obj) (cls : Value) (dd : Option Addr) (pn : List (Addr × Obj)), Zc cls dd oe → (∃ vs, oe.data = .fields vs) → PSs (X.suite a ((a, oe) :: pn)) [.Return (some (.List es p1)) p2] (tRet (tLst (tHots T sub atts a cls dd i hs))) := fun a oe cls dd pn hz hf =>
    pss_one (ps_ret (pe_lst (h_all B hcn hbi hi (.inl hln) hnd hncd hz hf hs es hc)))
  refine PS.imp (ps_try_as stk frm hN hi hln (c := .ref (T.ca d)) ⟨hg, hxd, .inl (hcn _ _ hx)⟩ tk hb suite) fun D σ H ⟨ρ, μ, ps, hm, hs', o⟩ => ⟨ρ, μ, ps, hm, hs', ?_⟩
  simp only [evS] at o
  split at o
  · rename_i hlt
    have hlt : i < ps.length := Nat.le_of_ble_eq_true hlt
    have hlen : ps.length = σ.length := hs'.length
    cases hr : evSL T.G sub atts F b ps μ with
    | nx ps2 μ2 => rw [hr] at o; exact o
    | rt p μ2 => rw [hr] at o; exact o
    | bad => rw [hr] at o; exact o
    | exc c y μ2 =>
      rw [hr] at o
      simp only at o
      intro ρ' H' dd v σ' s' m' hxd' ry hl'
      cases hsb : sub c d with
      | none => rw [hsb] at o; exact o.elim
      | some bb =>
        rw [hsb] at o
        refine ⟨bb, (B.ex c d bb hsb).1, fun hbt a ha => ?_, fun hbf => ?_⟩
        · subst hbt
          simp only at o
          cases hq : hotQs sub atts c y hs with
          | none => rw [hq] at o; exact o.elim
          | some qs =>
            rw [hq] at o
            simp only at o
            split at o
            · rename_i hble
              refine ⟨c, dd, v, qs, y, rfl, rfl, ⟨d, true, hsb⟩, ⟨hxd', ?_⟩, hq, ?_, fun p hp => ?_⟩
              · rw [List.getElem?_set_self (by omega)]
              · have := (hot_rep ry hs qs hq).length
                rw [← this]; exact ble_line hble
              · exact o ρ' _ _ (s'.trans (step_new hp)) (m'.new hp) (.lst (m'.notin hp) upd_same ((hot_rep ry hs qs hq).step (step_new hp)))
            · exact o.elim
        · subst hbf
          exact o ρ' H' dd v σ' s' m' hxd' ry hl'
  · exact o.elim
end
/-! ### the text of statements against its short form -/
def isComp : Expr → Bool
  | .ListComp _ _ _ _ => true
  | .SetComp _ _ _ _ => true
  | .DictComp _ _ _ _ _ => true
  | _ => false
theorem noSwap {e : Expr} (h : isComp e = false) (t : Option Expr) (l : Nat) (env : Env) : swapsWith e t l env = pure false := by
  cases e <;> first | rfl | cases h
def swB (sc : Scope) (t : Str) (pl : Nat) : Expr → Bool
  | .ListComp _ _ s p => sc.kind == .function && sc.names.lookup t == some .local && pl == p.line && !(s.names.any fun (n, k) => n == t && (k == .local || k == .cell))
  | _ => false
def notTup : Expr → Bool
  | .Tuple _ _ _ => false
  | _ => true
/-! several names at once: what is stored in which order -/
def isLocN (sc : Scope) : Expr → Bool
  | .Name x _ => sc.names.lookup x == some .local
  | _ => false
/-- 1: through a tuple; 2, 3: names straight -/
def parK (sc : Scope) (et e : Expr) : Nat :=
  match et, e with
  | .Tuple ts _ _, .Tuple vs _ _ => if vs.all (foldedForSure 8) || ts.any fun t => !isLocN sc t then 1 else match ts, vs with
    | [.Name x px, .Name y py], [a, b] => if sc.kind == ScopeKind.function && (py.line == px.line && (!(x == y) && (notStar a && (notStar b && !([a, b].all (constantsAlone 8)))))) then 2 else 0
    | [.Name x px, .Name y py, .Name z pz], [a, b, c] => if sc.kind == ScopeKind.function && (py.line == px.line && (pz.line == px.line && (!(x == y) && (!(x == z) && (!(y == z) && (notStar a && (notStar b && (notStar c && !([a, b, c].all (constantsAlone 8)))))))))) then 3 else 0
    | _, _ => 0
  | _, _ => 0
theorem names_lt {α β : Type} {f : α → Option β} {p : α → Bool} (h : ∀ a, p a = false → f a = none) : ∀ (l : List α), (l.any fun a => !p a) = true → (l.filterMap f).length < l.length := by
  intro l
  induction l with
  | nil => intro h; simp at h
  | cons a l ih =>
    intro hp
    have hle : (l.filterMap f).length ≤ l.length := List.length_filterMap_le f l
    rw [List.any_cons, Bool.or_eq_true] at hp
    rcases hp with hp | hp
    · have : f a = none := h a (by simpa using hp)
      rw [List.filterMap_cons_none this]
      simp only [List.length_cons]; omega
    · have := ih hp
      cases e : f a with
      | none => rw [List.filterMap_cons_none e]; simp only [List.length_cons]; omega
      | some b => rw [List.filterMap_cons_some e]; simp only [List.length_cons]; omega
theorem par_none {ts vs : List Expr} {k1 k2 : Nat} {p1 p2 : Pos} {env : Env} (h : (vs.all (foldedForSure 8) || ts.any fun t => !isLocN env.scope t) = true) : swappedStores [.Tuple ts k1 p1] (.Tuple vs k2 p2) env = pure none := by
  unfold swappedStores
  rw [Bool.or_eq_true] at h
  dsimp only [pure_bind]
  split
  · rfl
  · skip
    split
    · rfl
    · skip
      split
      · rfl
      · rename_i c1 c2 c3
        split
        · rfl
        · rename_i c4
          rcases h with h | h
          · exact absurd h c4
          · refine absurd ?_ c3
            rw [Bool.or_eq_true]
            refine .inl ?_
            rw [bne_iff_ne]
            refine Nat.ne_of_lt (names_lt (p := isLocN env.scope) (fun a ha => ?_) ts h)
            cases a with
            | Name x p =>
              have hz : (env.kindOf x == some NameKind.local) = false := ha
              simp only [hz, Bool.false_and, Bool.false_eq_true, if_false]
            | _ => rfl
theorem star_any {l : List Expr} (h : l.all notStar = true) : (l.any fun x => match x with
        | .Starred _ _ => true
        | _ => false) = false := by
  induction l with
  | nil => rfl
  | cons a l ih =>
    simp only [List.all_cons, Bool.and_eq_true] at h
    rw [List.any_cons, ih h.2]
    cases a <;> first | rfl | cases h.1
theorem par_two {x y : Str} {a b : Expr} {px py p1 p2 : Pos} {k1 k2 : Nat} {env : Env} (hb : env.blockKind = .function) (hx : env.scope.names.lookup x = some .local) (hy : env.scope.names.lookup y = some .local) (hl : (py.line == px.line) = true) (hn : (x == y) = false)
    (sa : notStar a = true) (sb : notStar b = true) (hf : [a, b].all (foldedForSure 8) = false) (hc : [a, b].all (constantsAlone 8) = false) : swappedStores [.Tuple [.Name x px, .Name y py] k1 p1] (.Tuple [a, b] k2 p2) env = pure (some [x, y]) := by
  have kx : (env.kindOf x == some NameKind.local) = true := by unfold Env.kindOf; rw [hx]; rfl
  have ky : (env.kindOf y == some NameKind.local) = true := by unfold Env.kindOf; rw [hy]; rfl
  have hst := star_any (l := [a, b]) (by simp only [List.all_cons, List.all_nil, sa, sb, Bool.and_self])
  have hfm : (List.filterMap (fun t => match t with
      | Expr.Name id pos => if (env.kindOf id == some NameKind.local && pos.line == (Option.map (fun x => x.pos.line) [Expr.Name x px, Expr.Name y py].head?).getD 0) = true then some id else none
      | _ => none) [Expr.Name x px, Expr.Name y py]) = [x, y] := by
    have h0 : (Option.map (fun x => x.pos.line) [Expr.Name x px, Expr.Name y py].head?).getD 0 = px.line := rfl
    rw [h0]
    have e1 : (if (env.kindOf x == some NameKind.local && px.line == px.line) = true then some x else none) = some x := by rw [kx, beq_self_eq_true]; rfl
    have e2 : (if (env.kindOf y == some NameKind.local && py.line == px.line) = true then some y else none) = some y := by rw [ky, hl]; rfl
    simp only [List.filterMap_cons, List.filterMap_nil, e1, e2]
  unfold swappedStores
  dsimp only [pure_bind]
  have hdup : [x, y].eraseDups.length = 2 := by
      have hn' : (y == x) = false := by
        rw [beq_eq_false_iff_ne] at hn ⊢
        exact Ne.symm hn
      simp [List.eraseDups_cons, hn, hn']
  split
  · rename_i z0; exfalso; rw [hb] at z0; revert z0; simp
  · split
    · rename_i z0; exact absurd ((star_any (l := [a, b]) (by simp only [List.all_cons, List.all_nil, sa, sb, Bool.and_self])).symm.trans z0) Bool.false_ne_true
    · split
      · rename_i z0
        exfalso
        have z1 := hfm
        have z2 : ([x, y].length != 2 || [x, y].eraseDups.length != [x, y].length) = true := by
          rw [← z1]; exact z0
        rw [hdup] at z2
        exact Bool.false_ne_true z2
      · rw [if_neg (by rw [hf]; decide), if_neg (by rw [hc]; decide)]
        exact congrArg (fun l => (pure (some l) : Sem (Option (List Str)))) hfm
theorem par_three {x y z : Str} {a b c : Expr} {px py pz p1 p2 : Pos} {k1 k2 : Nat} {env : Env} (hb : env.blockKind = .function) (hx : env.scope.names.lookup x = some .local) (hy : env.scope.names.lookup y = some .local) (hz : env.scope.names.lookup z = some .local) (hl : (py.line == px.line) = true) (hl2 : (pz.line == px.line) = true) (hn : (x == y) = false) (hn2 : (x == z) = false) (hn3 : (y == z) = false)
    (sa : notStar a = true) (sb : notStar b = true) (sc : notStar c = true) (hf : [a, b, c].all (foldedForSure 8) = false) (hc : [a, b, c].all (constantsAlone 8) = false) : swappedStores [.Tuple [.Name x px, .Name y py, .Name z pz] k1 p1] (.Tuple [a, b, c] k2 p2) env = pure (some [x, y, z]) := by
  have kx : (env.kindOf x == some NameKind.local) = true := by unfold Env.kindOf; rw [hx]; rfl
  have ky : (env.kindOf y == some NameKind.local) = true := by unfold Env.kindOf; rw [hy]; rfl
  have kz : (env.kindOf z == some NameKind.local) = true := by unfold Env.kindOf; rw [hz]; rfl
  have hst := star_any (l := [a, b, c]) (by simp only [List.all_cons, List.all_nil, sa, sb, sc, Bool.and_self])
  have hfm : (List.filterMap (fun t => match t with
      | Expr.Name id pos => if (env.kindOf id == some NameKind.local && pos.line == (Option.map (fun x => x.pos.line) [Expr.Name x px, Expr.Name y py, Expr.Name z pz].head?).getD 0) = true then some id else none
      | _ => none) [Expr.Name x px, Expr.Name y py, Expr.Name z pz]) = [x, y, z] := by
    have h0 : (Option.map (fun x => x.pos.line) [Expr.Name x px, Expr.Name y py, Expr.Name z pz].head?).getD 0 = px.line := rfl
    rw [h0]
    have e1 : (if (env.kindOf x == some NameKind.local && px.line == px.line) = true then some x else none) = some x := by rw [kx, beq_self_eq_true]; rfl
    have e2 : (if (env.kindOf y == some NameKind.local && py.line == px.line) = true then some y else none) = some y := by rw [ky, hl]; rfl
    have e3 : (if (env.kindOf z == some NameKind.local && pz.line == px.line) = true then some z else none) = some z := by rw [kz, hl2]; rfl
    simp only [List.filterMap_cons, List.filterMap_nil, e1, e2, e3]
  unfold swappedStores
  dsimp only [pure_bind]
  have hdup : [x, y, z].eraseDups.length = 3 := by
      have hn' : (y == x) = false := by
        rw [beq_eq_false_iff_ne] at hn ⊢
        exact Ne.symm hn
      have hn2' : (z == x) = false := by
        rw [beq_eq_false_iff_ne] at hn2 ⊢
        exact Ne.symm hn2
      have hn3' : (z == y) = false := by
        rw [beq_eq_false_iff_ne] at hn3 ⊢
        exact Ne.symm hn3
      simp [List.eraseDups_cons, hn', hn2', hn3']
  split
  · rename_i z0; exfalso; rw [hb] at z0; revert z0; simp
  · split
    · rename_i z0; exact absurd ((star_any (l := [a, b, c]) (by simp only [List.all_cons, List.all_nil, sa, sb, sc, Bool.and_self])).symm.trans z0) Bool.false_ne_true
    · split
      · rename_i z0
        exfalso
        have z1 := hfm
        have z2 : ([x, y, z].length != 3 || [x, y, z].eraseDups.length != [x, y, z].length) = true := by
          rw [← z1]; exact z0
        rw [hdup] at z2
        exact Bool.false_ne_true z2
      · rw [if_neg (by rw [hf]; decide), if_neg (by rw [hc]; decide)]
        exact congrArg (fun l => (pure (some l) : Sem (Option (List Str)))) hfm
structure Cs extends Ck where
  cn : List Str
  rz : List Nat
mutual
def chkS (C : Cs) (N : List Str) (fn : Str → Bool) (sc : Scope) : S → Stmt → Bool
  | .asg i a, .Assign [.Name x p] e pos => decide (N[i]? = some x) && (isLoc fn sc x && (chkE C.toCk N fn sc a e && (!isComp e || swB sc x p.line e)))
  | .asgT t a, .Assign [et] e pos => chkT N fn sc t et && (chkE C.toCk N fn sc a e && (!isComp e && ((notTup e || parK sc et e != 0) && (notStar et))))
  | .setx a b x, .Assign [.Subscript ea eb p] e pos => chkE C.toCk N fn sc a ea && (chkE C.toCk N fn sc b eb && (chkE C.toCk N fn sc x e && (!isComp e && notSlice eb)))
  | .ret a, .Return (some e) _ => chkE C.toCk N fn sc a e
  | .ife c a b, .If ec ea eb _ => chkE C.toCk N fn sc c ec && (chkSL C N fn sc a ea && chkSL C N fn sc b eb)
  | .for tg it b, .For et ei eb [] _ => chkT N fn sc tg et && (notSet ei && (chkI C.toCk N fn sc it et ei && chkSL C N fn sc b eb))
  | .expr a, .Expr e _ => chkE C.toCk N fn sc a e && !isComp e
  | .raise c a, .Raise (some (.Call (.Name x _) [ea] [] _)) none _ => decide (C.cn[c]? = some x) && (C.rz.contains c && (isGl sc x && (!dbg x && (notStar ea && chkE C.toCk N fn sc a ea))))
  | .try1 b d i hs, .Try body [.ExceptHandler (some (.Name x _)) (some nm) [.Return (some (.List es _)) _] _] [] [] _ => decide (N[i]? = some nm) && ((sc.names.lookup nm == some .local) && (!dbg nm && (!(nm == ("__classdict__" : Str)) && (decide (C.cn[d]? = some x) && (isGl sc x && (!dbg x && (chkHs C.cn nm sc hs es && chkSL C N fn sc b body)))))))
  | .doc, .Expr (.Constant (.str _) _ _) _ => true
  | _, _ => false
def chkSL (C : Cs) (N : List Str) (fn : Str → Bool) (sc : Scope) : SL → List Stmt → Bool
  | .nil, [] => true
  | .cons s r, st :: rest => chkS C N fn sc s st && chkSL C N fn sc r rest
  | _, _ => false
end
end HP
set_option Elab.async false
set_option linter.all false
set_option maxRecDepth 100000
set_option maxHeartbeats 8000000
namespace HP
open PySem PySem.Spec PyProof.Rows L2

structure Gs (C : Cs) (T : Tab) (sub : Nat → Nat → Option Bool) (atts : Nat → List Nat) (F : Nat → List PV → Mem → HP.R PV) (k : Nat) (X : Cx) (W : WX) : Prop where
  g : Gd C.toCk T F k X W
  h3 : 3 ≤ k
  pas : PassesOwn (model X.prog X.w) X.A X.env X.xe
  stk : X.stack = X.env :: X.outer
  frm : X.env.frame = some X.env.locals
  cls : ∀ (c : Nat) (x : Str), C.cn[c]? = some x → X.mg x = some (.ref (T.ca c))
  mkc : ∀ (c : Nat) (x : Str), C.cn[c]? = some x → c ∈ C.rz → ∃ fI fd ps, ClsAt X T c x fI fd ps
  sb : SubAt X.K T sub atts
section
variable {C : Cs} {T : Tab} {sub : Nat → Nat → Option Bool} {atts : Nat → List Nat} {F : Nat → List PV → Mem → HP.R PV} {k : Nat} {X : Cx} {W : WX}
theorem Gs.tr (g : Gs C T sub atts F k X W) {pn : List (Addr × Obj)} {xe : Value → Shared → Prop} {W' : WX} (tk : Takes (X.tr pn xe) W') (hp : PassesOwn (model X.prog X.w) X.A X.env xe) : Gs C T sub atts F k (X.tr pn xe) W' :=
  ⟨⟨g.g.nd, g.g.calm, g.g.room, g.g.gl, g.g.bl, fun j x e => let ⟨f, fd, ps, A⟩ := g.g.fn j x e; ⟨f, fd, ps, ⟨A.mg, A.kp, A.bd, A.ok, A.ln, A.kw⟩⟩, tk⟩, g.h3, hp, g.stk, g.frm, g.cls,
    fun c x e h => let ⟨fI, fd, ps, A⟩ := g.mkc c x e h; ⟨fI, fd, ps, ⟨A.mg, A.ox, A.iC, A.tI, A.bd, A.ok⟩⟩, g.sb⟩
theorem subA {o i : Expr} {env : Env} {pos : Pos} (h : notSlice i = true) : ∀ v, assign (.Subscript o i pos) env v = (do
      let ov ← holding [v] (eval o env)
      let iv ← holding [v, ov] (eval i env)
      standAt pos
      holding [v, ov, iv] (setItem ov iv v)
      release [v, ov, iv] []) := by
  intro v
  cases i <;> first | rfl | cases h
theorem swSole {t e : Expr} {l : Nat} {env : Env} (h : isComp e = false) : swapsWithSole [t] e l env = pure false := by
  cases e <;> first | rfl | cases h
theorem z_setx {a b x : E} {ea eb e : Expr} {p pos : Pos} (hu : X.A.units + 1 < cLine) (ha : PE X ea (rdE X.K T F W a)) (hb : PE X eb (rdE X.K T F W b)) (hx : PE X e (rdE X.K T F W x)) (hc : isComp e = false) (hs : notSlice eb = true) :
    PS X (.Assign [.Subscript ea eb p] e pos) (rdS X.K T sub atts F W (.setx a b x)) :=
  PS.imp (ps_asg hx (pg_sub ha hb (set_q hu) (subA hs)) (swSole hc) rfl rfl) fun D σ H ⟨ρ, μ, ps, hm, hs, o⟩ => ⟨ρ, μ, ps, hm, hs, by
    simp only [evS] at o
    refine (fl_bind rfl o).imp fun v H1 ⟨ρ1, μ1, y, s1, m1, r1, o1⟩ => ?_
    have hs1 := hs.step s1
    refine ⟨ρ1, μ1, ps, m1, hs1, (fl_bind rfl o1).imp fun v2 H2 ⟨ρ2, μ2, q, s2, m2, r2, o2⟩ => ?_⟩
    have hs2 := hs1.step s2
    refine ⟨ρ2, μ2, ps, m2, hs2, (fl_bind rfl o2).imp fun v3 H3 ⟨ρ3, μ3, i, s3, m3, r3, o3⟩ => ?_⟩
    cases e : setQ q i y μ3 with
    | none => rw [e] at o3; exact o3.elim
    | some μ4 =>
      rw [e] at o3
      exact ⟨ρ3, μ3, q, i, y, μ4, m3, r2.step s3, r3, r1.step (s2.trans s3), e, fun H' s4 m4 => o3 ρ3 H' σ s4 m4 ((hs2.step s3).step s4) rfl⟩⟩
theorem z_setLc {i : Nat} {y : Str} {a : E} {e : Expr} {py pos : Pos} (h : PS X (.Assign [.Name y py] e pos) (fun D σ H => rdE X.K T F W a σ H fun v H' => D.nx (σ.set i (some v)) H')) : PS X (.Assign [.Name y py] e pos) (rdS X.K T sub atts F W (.asg i a)) :=
  PS.imp h fun D σ H hh => asg_imp hh
theorem sw_of {eelt : Expr} {gens : List Comprehension} {scope : Scope} {p py : Pos} {y : Str} {l : Nat} {env : Env} (h : swB env.scope y py.line (.ListComp eelt gens scope p) = true) : env.scope.names.lookup y = some .local ∧ swapsWith (.ListComp eelt gens scope p) (some (.Name y py)) l env = pure true := by
  have h : (env.scope.kind == .function && env.scope.names.lookup y == some .local && py.line == p.line && !(scope.names.any fun (n, k) => n == y && (k == .local || k == .cell))) = true := h
  have h0 := h
  simp only [Bool.and_eq_true] at h
  obtain ⟨⟨⟨h1, h2⟩, h3⟩, h4⟩ := h
  refine ⟨beq_iff_eq.mp h2, ?_⟩
  have hb : env.blockKind = .function := by
    unfold Env.blockKind
    rw [beq_iff_eq.mp h1]; rfl
  unfold swapsWith
  show (pure (env.blockKind == .function && env.kindOf y == some .local && py.line == p.line && !(scope.names.any fun (n, k) => n == y && (k == .local || k == .cell))) : Sem Bool) = pure true
  rw [hb]
  have hk : (env.kindOf y == some .local) = true := h2
  rw [hk, h3, h4]
  rfl
theorem swp_none {et e : Expr} {env : Env} (h : notTup e = true) : swappedStores [et] e env = pure none := by
  unfold swappedStores
  cases et <;> cases e <;> first | rfl | cases h
theorem bind_fl {α β : Type} {r : HP.R α} {f : α → Mem → HP.R β} {g : β → Mem → Fl} : (r.bind f).fl g = r.fl fun a μ => (f a μ).fl g := by cases r <;> rfl
theorem blk_of {env : Env} (h : (env.scope.kind == ScopeKind.function) = true) : env.blockKind = .function := by
  unfold Env.blockKind
  rw [beq_iff_eq.mp h]; rfl
theorem z_par2 {i j : Nat} {es : EL} {x y : Str} {a b : Expr} {px py pt pos : Pos} {kt k2 : Nat} {pt2 : Pos} (hc : X.calm = true) (hN : X.N.Nodup) (hi : X.N[i]? = some x) (hj : X.N[j]? = some y) (hij : i ≠ j)
    (hx : X.env.scope.names.lookup x = some .local) (hy : X.env.scope.names.lookup y = some .local) (ha : PA X [a, b] (rdA X.K T F W es))
    (hw : swappedStores [.Tuple [.Name x px, .Name y py] kt pt] (.Tuple [a, b] k2 pt2) X.env = pure (some [x, y])) :
    PS X (.Assign [.Tuple [.Name x px, .Name y py] kt pt] (.Tuple [a, b] k2 pt2) pos) (rdS X.K T sub atts F W (.asgT (.tup (.cons (.nm i) (.cons (.nm j) .nil))) (.tup es))) :=
  PS.imp (ps_par hc hN hi hj hij hx hy ha hw) fun D σ H ⟨ρ, μ, ps, hm, hs, o⟩ => ⟨ρ, μ, ps, hm, hs, by
    simp only [evS, evE] at o
    rw [bind_fl] at o
    refine (fl_bindG rfl o).imp fun xs μ1 ρ1 H1 ⟨s1, m1, o1⟩ vs rv => ?_
    split at o1
    · have o1 : OutF X.K T ρ1 H1 (match bindTs (.cons (.nm i) (.cons (.nm j) .nil)) xs ps with
        | some σ' => Fl.nx σ' μ1
        | none => Fl.bad) D W σ.length := o1
      cases rv with
      | nil => exact o1.elim
      | cons r1 rv =>
        cases rv with
        | nil => exact o1.elim
        | cons r2 rv =>
          cases rv with
          | cons _ _ => exact o1.elim
          | nil => exact ⟨_, _, rfl, o1 ρ1 H1 _ .refl m1 (StR.set r2 j (StR.set r1 i (hs.step s1))) (by simp only [List.length_set])⟩
    · exact o1.elim⟩
theorem z_par3 {i j l : Nat} {es : EL} {x y z : Str} {a b c : Expr} {px py pz pt pos : Pos} {kt k2 : Nat} {pt2 : Pos} (hc : X.calm = true) (hN : X.N.Nodup) (hi : X.N[i]? = some x) (hj : X.N[j]? = some y) (hl : X.N[l]? = some z) (hij : i ≠ j) (hil : i ≠ l) (hjl : j ≠ l)
    (hx : X.env.scope.names.lookup x = some .local) (hy : X.env.scope.names.lookup y = some .local) (hz : X.env.scope.names.lookup z = some .local) (ha : PA X [a, b, c] (rdA X.K T F W es))
    (hw : swappedStores [.Tuple [.Name x px, .Name y py, .Name z pz] kt pt] (.Tuple [a, b, c] k2 pt2) X.env = pure (some [x, y, z])) :
    PS X (.Assign [.Tuple [.Name x px, .Name y py, .Name z pz] kt pt] (.Tuple [a, b, c] k2 pt2) pos) (rdS X.K T sub atts F W (.asgT (.tup (.cons (.nm i) (.cons (.nm j) (.cons (.nm l) .nil)))) (.tup es))) :=
  PS.imp (ps_par3 hc hN hi hj hl hij hil hjl hx hy hz ha hw) fun D σ H ⟨ρ, μ, ps, hm, hs, o⟩ => ⟨ρ, μ, ps, hm, hs, by
    simp only [evS, evE] at o
    rw [bind_fl] at o
    refine (fl_bindG rfl o).imp fun xs μ1 ρ1 H1 ⟨s1, m1, o1⟩ vs rv => ?_
    split at o1
    · have o1 : OutF X.K T ρ1 H1 (match bindTs (.cons (.nm i) (.cons (.nm j) (.cons (.nm l) .nil))) xs ps with
        | some σ' => Fl.nx σ' μ1
        | none => Fl.bad) D W σ.length := o1
      cases rv with
      | nil => exact o1.elim
      | cons r1 rv =>
        cases rv with
        | nil => exact o1.elim
        | cons r2 rv =>
          cases rv with
          | nil => exact o1.elim
          | cons r3 rv =>
            cases rv with
            | cons _ _ => exact o1.elim
            | nil => exact ⟨_, _, _, rfl, o1 ρ1 H1 _ .refl m1 (StR.set r3 l (StR.set r2 j (StR.set r1 i (hs.step s1)))) (by simp only [List.length_set])⟩
    · exact o1.elim⟩
theorem tup_of {N : List Str} {fn : Str → Bool} {sc : Scope} {Ck0 : Ck} {a : E} {l : List Expr} {k2 : Nat} {p : Pos} (h : chkE Ck0 N fn sc a (.Tuple l k2 p) = true) : ∃ es, a = .tup es ∧ chkL Ck0 N fn sc es l = true := by
  cases a with
  | tup es => exact ⟨es, rfl, h⟩
  | call j es => cases es <;> exact (Bool.false_ne_true h).elim
  | isT a one ts => cases one <;> rcases ts with _ | ⟨t1, _ | ⟨t2, ts⟩⟩ <;> exact (Bool.false_ne_true h).elim
  | _ => exact (Bool.false_ne_true h).elim
theorem tgs2 {N : List Str} {fn : Str → Bool} {sc : Scope} {ts : TGL} {e1 : Expr} {es : List Expr} (h : chkTs N fn sc ts (e1 :: es) = true) : ∃ t r, ts = .cons t r ∧ chkT N fn sc t e1 = true ∧ chkTs N fn sc r es = true := by
  cases ts with
  | nil => exact (Bool.false_ne_true h).elim
  | cons t r =>
    have h : (chkT N fn sc t e1 && chkTs N fn sc r es) = true := h
    rw [Bool.and_eq_true] at h
    exact ⟨t, r, rfl, h.1, h.2⟩
theorem tg1 {N : List Str} {fn : Str → Bool} {sc : Scope} {t : TG} {x : Str} {p : Pos} (h : chkT N fn sc t (.Name x p) = true) : ∃ i, t = .nm i ∧ N[i]? = some x := by
  cases t with
  | nm i =>
    have h : (decide (N[i]? = some x) && isLoc fn sc x) = true := h
    rw [Bool.and_eq_true] at h
    exact ⟨i, rfl, of_decide_eq_true h.1⟩
  | tup ts => exact (Bool.false_ne_true h).elim
theorem tgs0 {N : List Str} {fn : Str → Bool} {sc : Scope} {ts : TGL} (h : chkTs N fn sc ts [] = true) : ts = .nil := by
  cases ts with
  | nil => rfl
  | cons _ _ => exact (Bool.false_ne_true h).elim
theorem loc_of {sc : Scope} {x : Str} {p : Pos} (h : (!isLocN sc (.Name x p)) = false) : sc.names.lookup x = some .local := by
  have : isLocN sc (.Name x p) = true := by simpa using h
  exact beq_iff_eq.mp this
theorem ne_ix {N : List Str} {i j : Nat} {x y : Str} (hi : N[i]? = some x) (hj : N[j]? = some y) (h : (!(x == y)) = true) : i ≠ j := fun z => by
  subst z
  rw [hi] at hj
  cases hj
  simp at h
theorem z_asgTT {t : TG} {a : E} {et e : Expr} {pos : Pos} (g : Gs C T sub atts F k X W) (h1 : chkT X.N X.fn X.env.scope t et = true) (h2 : chkE C.toCk X.N X.fn X.env.scope a e = true) (h3 : isComp e = false) (h4 : (parK X.env.scope et e != 0) = true) (h5 : notStar et = true) :
    PS X (.Assign [et] e pos) (rdS X.K T sub atts F W (.asgT t a)) := by
  have z0 := fun hw => z_asgT (sub := sub) (atts := atts) (pos := pos) (s_tg g.g.nd g.g.calm t et h1) (sE a e X W g.g h2).1 (swSole h3) hw (by rw [asg_no h5]; rfl)
  unfold parK at h4
  split at h4
  · rename_i ts kt pt vs k2 pt2
    split at h4
    · rename_i c
      exact z0 (par_none c)
    · rename_i c
      rw [Bool.or_eq_true, not_or] at c
      obtain ⟨cf, cl⟩ := c
      have cf : vs.all (foldedForSure 8) = false := by simpa using cf
      have cl : (ts.any fun t => !isLocN X.env.scope t) = false := by simpa using cl
      split at h4
      · rename_i x px y py a1 b1 _ _
        split at h4
        · rename_i q
          simp only [Bool.and_eq_true] at q
          obtain ⟨q1, q2, q3, q4, q5, q6⟩ := q
          simp only [List.any_cons, List.any_nil, Bool.or_false, Bool.or_eq_false_iff] at cl
          obtain ⟨es, rfl, hl⟩ := tup_of h2
          cases t with
          | nm i => exact (Bool.false_ne_true h1).elim
          | tup ts' =>
            have h1 : ([Expr.Name x px, Expr.Name y py].all notStar && chkTs X.N X.fn X.env.scope ts' [.Name x px, .Name y py]) = true := h1
            rw [Bool.and_eq_true] at h1
            obtain ⟨t1, r1, rfl, w1, w2⟩ := tgs2 h1.2
            obtain ⟨t2, r2, rfl, w3, w4⟩ := tgs2 w2
            obtain ⟨i, rfl, hi⟩ := tg1 w1
            obtain ⟨j, rfl, hj⟩ := tg1 w3
            have := tgs0 w4
            subst this
            exact z_par2 g.g.calm g.g.nd hi hj (ne_ix hi hj q3) (loc_of cl.1) (loc_of cl.2) (sL es _ X W g.g hl)
              (par_two (blk_of q1) (loc_of cl.1) (loc_of cl.2) q2 ((Bool.not_eq_true' _).mp q3) q4 q5 cf ((Bool.not_eq_true' _).mp q6))
        · exact absurd h4 (by decide)
      · rename_i x px y py zz pz a1 b1 c1 _ _
        split at h4
        · rename_i q
          simp only [Bool.and_eq_true] at q
          obtain ⟨q1, q2, q2', q3, q3', q3'', q4, q5, q5', q6⟩ := q
          simp only [List.any_cons, List.any_nil, Bool.or_false, Bool.or_eq_false_iff] at cl
          obtain ⟨es, rfl, hl⟩ := tup_of h2
          cases t with
          | nm i => exact (Bool.false_ne_true h1).elim
          | tup ts' =>
            have h1 : ([Expr.Name x px, Expr.Name y py, Expr.Name zz pz].all notStar && chkTs X.N X.fn X.env.scope ts' [.Name x px, .Name y py, .Name zz pz]) = true := h1
            rw [Bool.and_eq_true] at h1
            obtain ⟨t1, r1, rfl, w1, w2⟩ := tgs2 h1.2
            obtain ⟨t2, r2, rfl, w3, w4⟩ := tgs2 w2
            obtain ⟨t3, r3, rfl, w5, w6⟩ := tgs2 w4
            obtain ⟨i, rfl, hi⟩ := tg1 w1
            obtain ⟨j, rfl, hj⟩ := tg1 w3
            obtain ⟨l, rfl, hl3⟩ := tg1 w5
            have := tgs0 w6
            subst this
            exact z_par3 g.g.calm g.g.nd hi hj hl3 (ne_ix hi hj q3) (ne_ix hi hl3 q3') (ne_ix hj hl3 q3'') (loc_of cl.1) (loc_of cl.2.1) (loc_of cl.2.2) (sL es _ X W g.g hl)
              (par_three (blk_of q1) (loc_of cl.1) (loc_of cl.2.1) (loc_of cl.2.2) q2 q2' ((Bool.not_eq_true' _).mp q3) ((Bool.not_eq_true' _).mp q3') ((Bool.not_eq_true' _).mp q3'') q4 q5 q5' cf ((Bool.not_eq_true' _).mp q6))
        · exact absurd h4 (by decide)
      · exact absurd h4 (by decide)
  · exact absurd h4 (by decide)
set_option maxHeartbeats 20000000
mutual
theorem sS : ∀ (s : S) (st : Stmt) (X : Cx) (W : WX), Gs C T sub atts F k X W → chkS C X.N X.fn X.env.scope s st = true → PS X st (rdS X.K T sub atts F W s)
  | .asg i a, st, X, W, g, h => by
    cases st with
    | Assign ts e pos =>
      rcases ts with _ | ⟨t, _ | ⟨t2, ts⟩⟩
      · exact (Bool.false_ne_true h).elim
      · cases t with
        | Name x p =>
          have h : (decide (X.N[i]? = some x) && (isLoc X.fn X.env.scope x && (chkE C.toCk X.N X.fn X.env.scope a e && (!isComp e || swB X.env.scope x p.line e)))) = true := h
          simp only [Bool.and_eq_true, decide_eq_true_eq] at h
          obtain ⟨h1, h2, h3, h4⟩ := h
          obtain ⟨l1, l2⟩ := isLoc_of h2
          cases hc : isComp e with
          | false => exact z_asg g.g.nd h1 l1 l2 (sE a e X W g.g h3).1 (noSwap hc _ _ _)
          | true =>
            rw [hc] at h4
            have h4 : swB X.env.scope x p.line e = true := by simpa using h4
            cases e with
            | ListComp eelt gens scope p2 =>
              cases a with
              | lc m vs tg it cs elt =>
                rcases gens with _ | ⟨⟨etg, ei, ifs, asy⟩, _ | ⟨⟨etg2, ei2, ifs2, asy2⟩, gens⟩⟩
                · exact (Bool.false_ne_true h3).elim
                · rcases asy with (_ | n) | n <;> try exact (Bool.false_ne_true h3).elim
                  have h : (blkC X.N X.env.scope scope (ownOf X.N vs) && (tg.ids.all vs.contains && (notSet ei && (chkI C.toCk X.N X.fn X.env.scope it etg ei && (chkT X.N (blkFn scope) (relS scope X.env.scope) tg etg && (chkC C.toCk X.N (blkFn scope) (relS scope X.env.scope) cs ifs && chkE C.toCk X.N (blkFn scope) (relS scope X.env.scope) elt eelt)))))) = true := h3
                  simp only [Bool.and_eq_true] at h
                  obtain ⟨b1, b2, b3, b4, b5, b6, b7⟩ := h
                  obtain ⟨hl, hsw⟩ := sw_of (l := pos.line) h4
                  exact z_setLc (s_setLc (m := m) g.g.calm g.g.nd h1 hl hsw (by rw [ownOf_snd]; exact sub_of b2) (ownOf_snd X.N vs).symm (sI it etg ei X W g.g b4) (sI it etg ei X NW (g.g.nw takes_never) b4) (own_nm b1)
                    (fun s H C' cl fp => s_ty (X := X.blk s H scope (compEnvC scope cl C' X.env) fp) g.g.nd g.g.calm tg etg b5) (fun s H C' cl fp => sC cs ifs (X.blk s H scope (compEnvC scope cl C' X.env) fp) NW g.g.blk b6) (fun s H C' cl fp => (sE elt eelt (X.blk s H scope (compEnvC scope cl C' X.env) fp) NW g.g.blk b7).1) (notSet_of b3 X.env))
                · rcases asy with (_ | n) | n <;> exact (Bool.false_ne_true h3).elim
              | lc2 m vs vs1 tg it cs tg1 it1 cs1 elt =>
                rcases gens with _ | ⟨⟨etg, ei, ifs, asy⟩, _ | ⟨⟨etg1, ei1, ifs1, asy1⟩, _ | ⟨g3, gens⟩⟩⟩
                · exact (Bool.false_ne_true h3).elim
                · rcases asy with (_ | n) | n <;> exact (Bool.false_ne_true h3).elim
                · rcases asy with (_ | n) | n <;> try exact (Bool.false_ne_true h3).elim
                  rcases asy1 with (_ | n) | n <;> try exact (Bool.false_ne_true h3).elim
                  have h : (blkC X.N X.env.scope scope (ownOf X.N vs) && (tg.ids.all vs.contains && (tg1.ids.all vs1.contains && (vs1.all vs.contains && (notSet ei && (notSet ei1 && (chkI C.toCk X.N X.fn X.env.scope it etg ei && (chkT X.N (blkFn scope) (relS scope X.env.scope) tg etg && (chkC C.toCk X.N (blkFn scope) (relS scope X.env.scope) cs ifs &&
                    (chkI C.toCk X.N (blkFn scope) (relS scope X.env.scope) it1 etg1 ei1 && (chkT X.N (blkFn scope) (relS scope X.env.scope) tg1 etg1 && (chkC C.toCk X.N (blkFn scope) (relS scope X.env.scope) cs1 ifs1 && chkE C.toCk X.N (blkFn scope) (relS scope X.env.scope) elt eelt)))))))))))) = true := h3
                  simp only [Bool.and_eq_true] at h
                  obtain ⟨b1, b2, b3, b4, b5, b6, b7, b8, b9, b10, b11, b12, b13⟩ := h
                  obtain ⟨hl, hsw⟩ := sw_of (l := pos.line) h4
                  refine z_setLc (PS.imp (ps_setLc2 (own := ownOf X.N vs) (vs1 := vs1) (wi := rdI X.K T F W it) (g := gY X.K tg) (tt := rdC X.K T F NW cs) (wi1 := rdI X.K T F NW it1) (g1 := gY X.K tg1) (tt1 := rdC X.K T F NW cs1) (te := rdE X.K T F NW elt) g.g.calm g.g.nd h1 hl hsw (sI it etg ei X W g.g b7) (own_nm b1) (by rw [ownOf_snd]; exact sub_of b4)
                    (fun s H C' cl fp => s_ty (X := X.blk s H scope (compEnvC scope cl C' X.env) fp) g.g.nd g.g.calm tg etg b8) (fun s H C' cl fp => sC cs ifs (X.blk s H scope (compEnvC scope cl C' X.env) fp) NW g.g.blk b9) (fun s H C' cl fp => sI it1 etg1 ei1 (X.blk s H scope (compEnvC scope cl C' X.env) fp) NW g.g.blk b10)
                    (fun s H C' cl fp => s_ty (X := X.blk s H scope (compEnvC scope cl C' X.env) fp) g.g.nd g.g.calm tg1 etg1 b11) (fun s H C' cl fp => sC cs1 ifs1 (X.blk s H scope (compEnvC scope cl C' X.env) fp) NW g.g.blk b12) (fun s H C' cl fp => (sE elt eelt (X.blk s H scope (compEnvC scope cl C' X.env) fp) NW g.g.blk b13).1) (notSet_of b5 X.env) (fun env => notSet_of b6 env)) fun D σ H hh => ?_)
                  have := lc2_imp (sub_of b2) (sub_of b3) hh
                  rw [ownOf_snd]
                  exact this
                · rcases asy with (_ | n) | n <;> first | exact (Bool.false_ne_true h3).elim | (rcases asy1 with (_ | n) | n <;> exact (Bool.false_ne_true h3).elim)
              | call j es => cases es <;> exact (Bool.false_ne_true h3).elim
              | isT a one ts => cases one <;> first | exact (Bool.false_ne_true h3).elim | (rcases ts with _ | ⟨_, _ | ⟨_, _⟩⟩ <;> exact (Bool.false_ne_true h3).elim)
              | _ => exact (Bool.false_ne_true h3).elim
            | _ => exact (Bool.false_ne_true h4).elim
        | _ => exact (Bool.false_ne_true h).elim
      · cases t <;> exact (Bool.false_ne_true h).elim
    | _ => exact (Bool.false_ne_true h).elim
  | .asgT t a, st, X, W, g, h => by
    cases st with
    | Assign ts e pos =>
      rcases ts with _ | ⟨et, _ | ⟨t2, ts⟩⟩ <;> try exact (Bool.false_ne_true h).elim
      have h : (chkT X.N X.fn X.env.scope t et && (chkE C.toCk X.N X.fn X.env.scope a e && (!isComp e && ((notTup e || parK X.env.scope et e != 0) && notStar et)))) = true := h
      simp only [Bool.and_eq_true, Bool.not_eq_true', Bool.or_eq_true] at h
      obtain ⟨h1, h2, h3, h4, h5⟩ := h
      rcases h4 with h4 | h4
      case inr => exact z_asgTT g h1 h2 h3 h4 h5
      exact z_asgT (s_tg g.g.nd g.g.calm t et h1) (sE a e X W g.g h2).1 (swSole h3) (swp_none h4) (by rw [asg_no h5]; rfl)
    | _ => exact (Bool.false_ne_true h).elim
  | .setx a b x, st, X, W, g, h => by
    cases st with
    | Assign ts e pos =>
      rcases ts with _ | ⟨et, _ | ⟨t2, ts⟩⟩
      · exact (Bool.false_ne_true h).elim
      · cases et with
        | Subscript ea eb p =>
          have h : (chkE C.toCk X.N X.fn X.env.scope a ea && (chkE C.toCk X.N X.fn X.env.scope b eb && (chkE C.toCk X.N X.fn X.env.scope x e && (!isComp e && notSlice eb)))) = true := h
          simp only [Bool.and_eq_true, Bool.not_eq_true'] at h
          obtain ⟨h1, h2, h3, h4, h5⟩ := h
          exact z_setx (by have := g.g.hu; omega) (sE a ea X W g.g h1).1 (sE b eb X W g.g h2).1 (sE x e X W g.g h3).1 h4 h5
        | _ => exact (Bool.false_ne_true h).elim
      · cases et <;> exact (Bool.false_ne_true h).elim
    | _ => exact (Bool.false_ne_true h).elim
  | .aug i op a, st, X, W, g, h => by cases st <;> exact (Bool.false_ne_true h).elim
  | .ret a, st, X, W, g, h => by
    cases st with
    | Return o pos =>
      cases o with
      | some e => exact z_ret (sE a e X W g.g h).1
      | none => exact (Bool.false_ne_true h).elim
    | _ => exact (Bool.false_ne_true h).elim
  | .ife c a b, st, X, W, g, h => by
    cases st with
    | If ec ea eb pos =>
      have h : (chkE C.toCk X.N X.fn X.env.scope c ec && (chkSL C X.N X.fn X.env.scope a ea && chkSL C X.N X.fn X.env.scope b eb)) = true := h
      simp only [Bool.and_eq_true] at h
      exact z_if (sE c ec X W g.g h.1).2 (sSL a ea X W g h.2.1) (sSL b eb X W g h.2.2)
    | _ => exact (Bool.false_ne_true h).elim
  | .for tg it b, st, X, W, g, h => by
    cases st with
    | For et ei eb els pos =>
      rcases els with _ | ⟨_, _⟩
      · have h : (chkT X.N X.fn X.env.scope tg et && (notSet ei && (chkI C.toCk X.N X.fn X.env.scope it et ei && chkSL C X.N X.fn X.env.scope b eb))) = true := h
        simp only [Bool.and_eq_true] at h
        exact z_for g.pas g.g.calm (sI it et ei X W g.g h.2.2.1) (s_ty g.g.nd g.g.calm tg et h.1) (sSL b eb X W g h.2.2.2) (notSet_of h.2.1 X.env)
      · exact (Bool.false_ne_true h).elim
    | _ => exact (Bool.false_ne_true h).elim
  | .expr a, st, X, W, g, h => by
    cases st with
    | Expr e pos =>
      have h : (chkE C.toCk X.N X.fn X.env.scope a e && !isComp e) = true := h
      simp only [Bool.and_eq_true, Bool.not_eq_true'] at h
      exact z_expr (sE a e X W g.g h.1).1 (noSwap h.2 _ _ _)
    | _ => exact (Bool.false_ne_true h).elim
  | .raise c a, st, X, W, g, h => by
    cases st with
    | Raise o1 o2 pos =>
      cases o1 with
      | none => exact (Bool.false_ne_true h).elim
      | some e =>
        cases e with
        | Call f l kw p2 =>
          cases f with
          | Name x p =>
            rcases l with _ | ⟨ea, _ | ⟨e2, l⟩⟩
            · exact (Bool.false_ne_true h).elim
            · rcases kw with _ | ⟨_, _⟩
              · cases o2 with
                | some _ => exact (Bool.false_ne_true h).elim
                | none =>
                  have h : (decide (C.cn[c]? = some x) && (C.rz.contains c && (isGl X.env.scope x && (!dbg x && (notStar ea && chkE C.toCk X.N X.fn X.env.scope a ea))))) = true := h
                  simp only [Bool.and_eq_true, decide_eq_true_eq] at h
                  obtain ⟨h1, h2, h3, h4, h5, h6⟩ := h
                  obtain ⟨fI, fd, ps, A⟩ := g.mkc c x h1 (by simpa using h2)
                  exact z_raise A g.g.calm g.g.tk g.g.room g.h3 (isGl_of h3) (dbg_of h4) (sE a ea X W g.g h6).1 (star_no h5)
              · exact (Bool.false_ne_true h).elim
            · exact (Bool.false_ne_true h).elim
          | _ => exact (Bool.false_ne_true h).elim
        | _ => exact (Bool.false_ne_true h).elim
    | _ => exact (Bool.false_ne_true h).elim
  | .doc, st, X, W, g, h => by
    cases st with
    | Expr e pos =>
      cases e with
      | Constant c j p =>
        cases c with
        | str x => exact z_doc
        | _ => exact (Bool.false_ne_true h).elim
      | _ => exact (Bool.false_ne_true h).elim
    | _ => exact (Bool.false_ne_true h).elim
  | .try1 b d i hs, st, X, W, g, h => by
    cases st with
    | Try body hds els fin pos => exact s_tr b d i hs X W g body hds els fin pos h
    | _ => exact (Bool.false_ne_true h).elim
theorem s_tr : ∀ (b : SL) (d i : Nat) (hs : List HI) (X : Cx) (W : WX), Gs C T sub atts F k X W → ∀ (body : List Stmt) (hds : List ExceptHandler) (els fin : List Stmt) (pos : Pos), chkS C X.N X.fn X.env.scope (.try1 b d i hs) (.Try body hds els fin pos) = true → PS X (.Try body hds els fin pos) (rdS X.K T sub atts F W (.try1 b d i hs)) := by
  intro b d i hs X W g body hds els fin pos h
  rcases hds with _ | ⟨⟨ty, nm, suite, p3⟩, _ | ⟨hd2, hds⟩⟩
  · exact (Bool.false_ne_true h).elim
  · cases ty with
    | none => exact (Bool.false_ne_true h).elim
    | some ty =>
      cases ty with
      | Name x np =>
        cases nm with
        | none => exact (Bool.false_ne_true h).elim
        | some nm =>
          rcases suite with _ | ⟨s1, _ | ⟨s2, suite⟩⟩
          · exact (Bool.false_ne_true h).elim
          · cases s1 with
            | Return o p2 =>
              cases o with
              | none => exact (Bool.false_ne_true h).elim
              | some e =>
                cases e with
                | List es p1 =>
                  rcases els with _ | ⟨_, _⟩
                  · rcases fin with _ | ⟨_, _⟩
                    · have h : (decide (X.N[i]? = some nm) && ((X.env.scope.names.lookup nm == some .local) && (!dbg nm && (!(nm == ("__classdict__" : Str)) && (decide (C.cn[d]? = some x) && (isGl X.env.scope x && (!dbg x && (chkHs C.cn nm X.env.scope hs es && chkSL C X.N X.fn X.env.scope b body)))))))) = true := h
                      simp only [Bool.and_eq_true, decide_eq_true_eq] at h
                      obtain ⟨h1, h2, h3, h4, h5, h6, h7, h8, h9⟩ := h
                      exact z_try g.sb g.cls (g.g.bl _ (by decide)) g.stk g.frm g.g.nd h1 (beq_iff_eq.mp h2) (dbg_of h3) (by simpa using h4) h5 (isGl_of h6) (dbg_of h7) g.g.tk (fun W' pn xe tk hp => sSL b body (X.tr pn xe) W' (g.tr tk hp) h9) h8
                    · exact (Bool.false_ne_true h).elim
                  · exact (Bool.false_ne_true h).elim
                | _ => exact (Bool.false_ne_true h).elim
            | _ => exact (Bool.false_ne_true h).elim
          · cases s1 with
            | Return o p2 =>
              cases o with
              | none => exact (Bool.false_ne_true h).elim
              | some e => cases e <;> exact (Bool.false_ne_true h).elim
            | _ => exact (Bool.false_ne_true h).elim
      | _ => exact (Bool.false_ne_true h).elim
  · cases ty with
    | none => exact (Bool.false_ne_true h).elim
    | some ty =>
      cases ty with
      | Name x np =>
        cases nm with
        | none => exact (Bool.false_ne_true h).elim
        | some nm =>
          rcases suite with _ | ⟨s1, _ | ⟨s2, suite⟩⟩
          · exact (Bool.false_ne_true h).elim
          · cases s1 with
            | Return o p2 =>
              cases o with
              | none => exact (Bool.false_ne_true h).elim
              | some e => cases e <;> exact (Bool.false_ne_true h).elim
            | _ => exact (Bool.false_ne_true h).elim
          · cases s1 with
            | Return o p2 =>
              cases o with
              | none => exact (Bool.false_ne_true h).elim
              | some e => cases e <;> exact (Bool.false_ne_true h).elim
            | _ => exact (Bool.false_ne_true h).elim
      | _ => exact (Bool.false_ne_true h).elim
theorem sSL : ∀ (s : SL) (l : List Stmt) (X : Cx) (W : WX), Gs C T sub atts F k X W → chkSL C X.N X.fn X.env.scope s l = true → PSs X l (rdSL X.K T sub atts F W s)
  | .nil, l, X, W, g, h => by
    cases l with
    | nil => exact z_nil
    | cons _ _ => exact (Bool.false_ne_true h).elim
  | .cons s r, l, X, W, g, h => by
    cases l with
    | nil => exact (Bool.false_ne_true h).elim
    | cons st l =>
      have h : (chkS C X.N X.fn X.env.scope s st && chkSL C X.N X.fn X.env.scope r l) = true := h
      simp only [Bool.and_eq_true] at h
      exact z_cons (sS s st X W g h.1) (sSL r l X W g h.2)
end
end
end HP
set_option Elab.async false
set_option linter.all false
set_option maxRecDepth 100000
set_option maxHeartbeats 8000000
namespace HP
open PySem PySem.Spec PyProof.Rows L2

section
variable {K : PySem.W.Frag} {ρ ρ' : Rho} {H H' : Hp} {μ μ2 : Mem} {n : Nat}
/-! ### a call's end: the callee's own lists are told as they stand -/
structure Cut (ρ ρ' : Rho) : Prop where
  pre : ∃ new, ρ'.st = ρ.st ++ new
  hid : ρ'.hid = ρ.hid
theorem Cut.sub (c : Cut ρ ρ') {a : Addr} (n : a ∉ ρ'.all) : a ∉ ρ.all := by
  obtain ⟨new, e⟩ := c.pre
  obtain ⟨n1, n2⟩ := Rho.not_all.mp n
  refine Rho.not_all.mpr ⟨fun z => n1 ?_, fun z => n2 ?_⟩
  · rw [e]; exact List.mem_append_left _ z
  · rw [c.hid]; exact z
theorem Step.cut (s : Step ρ H ρ' H') : Cut ρ ρ' := ⟨s.pre.imp fun _ h => h.1, s.hid⟩
theorem Step.same (s : Step ρ H ρ' H') : Step ρ H ρ H' := ⟨⟨[], by simp, by simp⟩, rfl, s.keep, s.frz⟩
/-- the refs' reading is right -/
def SnapOk (K : PySem.W.Frag) (ρ ρ' : Rho) (H : Hp) (f : Nat → Option PV) : Prop := ∀ i a p, ρ'.st[i]? = some a → f i = some p → Rep K ρ H p (.ref a)
mutual
theorem snap_rep (c : Cut ρ ρ') {f : Nat → Option PV} (hf : SnapOk K ρ ρ' H f) : ∀ (p p' : PV) (v : V), Rep K ρ' H p v → snap f p = some p' → Rep K ρ H p' v
  | .non, _, _, r, e => by cases e; cases r; exact .non
  | .bl b, _, _, r, e => by cases e; cases r; exact .bl b
  | .int i, _, _, r, e => by cases e; cases r; exact .int i
  | .str s, _, _, r, e => by cases e; cases r; exact .str s
  | .scr ns, _, _, r, e => by
    cases e
    cases r with
    | scr n h => exact .scr (c.sub n) h
    | scrK h => exact .scrK h
  | .tup xs, p', _, r, e => by
    cases r with
    | tup n h d rl =>
      simp only [snap] at e
      cases e1 : snaps f xs with
      | none => rw [e1] at e; cases e
      | some ys => rw [e1] at e; cases e; exact .tup (c.sub n) h d (snaps_rep c hf xs ys _ rl e1)
  | .lst xs, p', _, r, e => by
    cases r with
    | lst n h rl =>
      simp only [snap] at e
      cases e1 : snaps f xs with
      | none => rw [e1] at e; cases e
      | some ys => rw [e1] at e; cases e; exact .lst (c.sub n) h (snaps_rep c hf xs ys _ rl e1)
  | .dct kvs, p', _, r, e => by
    cases r with
    | dct n h rl =>
      simp only [snap] at e
      cases e1 : snapk f kvs with
      | none => rw [e1] at e; cases e
      | some ys => rw [e1] at e; cases e; exact .dct (c.sub n) h (snapk_rep c hf kvs ys _ rl e1)
  | .ref i, p', _, r, e => by
    cases r with
    | ref h => exact hf i _ p' h e
theorem snaps_rep (c : Cut ρ ρ') {f : Nat → Option PV} (hf : SnapOk K ρ ρ' H f) : ∀ (ps ps' : List PV) (vs : List V), RepL K ρ' H ps vs → snaps f ps = some ps' → RepL K ρ H ps' vs
  | [], _, _, r, e => by cases e; cases r; exact .nil
  | p :: ps, ps', _, r, e => by
    cases r with
    | cons h t =>
      simp only [snaps] at e
      cases e1 : snap f p with
      | none => rw [e1] at e; cases e
      | some q =>
        rw [e1] at e
        cases e2 : snaps f ps with
        | none => rw [e2] at e; cases e
        | some qs => rw [e2] at e; cases e; exact .cons (snap_rep c hf p q _ h e1) (snaps_rep c hf ps qs _ t e2)
theorem snapk_rep (c : Cut ρ ρ') {f : Nat → Option PV} (hf : SnapOk K ρ ρ' H f) : ∀ (ps ps' : List (PV × PV)) (vs : List (Key × V)), RepK K ρ' H ps vs → snapk f ps = some ps' → RepK K ρ H ps' vs
  | [], _, _, r, e => by cases e; cases r; exact .nil
  | (k, p) :: ps, ps', _, r, e => by
    cases r with
    | cons ek h t =>
      simp only [snapk] at e
      cases e1 : snap f p with
      | none => rw [e1] at e; cases e
      | some q =>
        rw [e1] at e
        cases e2 : snapk f ps with
        | none => rw [e2] at e; cases e
        | some qs => rw [e2] at e; cases e; exact .cons ek (snap_rep c hf p q _ h e1) (snapk_rep c hf ps qs _ t e2)
end
theorem st_pre (c : Cut ρ ρ') {i : Nat} {a : Addr} (h : ρ'.st[i]? = some a) (hi : i < ρ.st.length) : ρ.st[i]? = some a := by
  obtain ⟨new, e⟩ := c.pre
  rw [e, List.getElem?_append_left hi] at h
  exact h
theorem out_st (c : Cut ρ ρ') (m : MemOk K ρ' H μ2) {i : Nat} {a : Addr} (h : ρ'.st[i]? = some a) (hi : ρ.st.length ≤ i) : a ∉ ρ.all := by
  refine Rho.not_all.mpr ⟨fun z => ?_, fun z => ?_⟩
  · obtain ⟨j, hj⟩ := List.getElem?_of_mem z
    have hj' : ρ'.st[j]? = some a := by
      obtain ⟨new, e⟩ := c.pre
      rw [e, List.getElem?_append_left (List.getElem?_eq_some_iff.mp hj).1]
      exact hj
    have := nodup_at m.nd h hj'
    have := (List.getElem?_eq_some_iff.mp hj).1
    omega
  · have := (m.hid a (by rw [c.hid]; exact z)).1
    exact this (List.mem_of_getElem? h)
theorem snapAt_ok (c : Cut ρ ρ') (m : MemOk K ρ' H μ2) : ∀ k, SnapOk K ρ ρ' H (snapAt ρ.st.length μ2 k) := by
  intro k
  induction k with
  | zero => intro i a p h e; cases e
  | succ k ih =>
    intro i a p h e
    simp only [snapAt] at e
    split at e
    · rename_i hi
      cases e
      exact .ref (st_pre c h (Nat.le_of_ble_eq_true hi))
    · rename_i hi
      have hi : ρ.st.length ≤ i := Nat.le_of_not_lt fun z => hi (Nat.ble_eq_true_of_le z)
      have no := out_st c m h hi
      obtain ⟨mo, e1, mr⟩ := m.all i a h
      rw [e1] at e
      cases mr with
      | @lst _ xs vs he rl =>
        simp only at e
        cases e2 : snaps (snapAt ρ.st.length μ2 k) xs with
        | none => rw [e2] at e; cases e
        | some ys => rw [e2] at e; cases e; exact .lst no he (snaps_rep c ih xs ys _ rl e2)
      | @dct _ kvs ks he rk =>
        simp only at e
        cases e2 : snapk (snapAt ρ.st.length μ2 k) kvs with
        | none => rw [e2] at e; cases e
        | some ys => rw [e2] at e; cases e; exact .dct no (.inl he) (snapk_rep c ih kvs ys _ rk e2)
      | lck _ _ => cases e
theorem snapM_get {f : Nat → Option PV} : ∀ (μ μ' : Mem), snapM f μ = some μ' → μ'.length = μ.length ∧ ∀ (i : Nat) (mo : MO), μ[i]? = some mo → ∃ mo', μ'[i]? = some mo' ∧ snapMO f mo = some mo'
  | [], _, e => by cases e; exact ⟨rfl, fun i mo h => by simp at h⟩
  | m :: r, μ', e => by
    simp only [snapM] at e
    cases e1 : snapMO f m with
    | none => rw [e1] at e; cases e
    | some m' =>
      rw [e1] at e
      cases e2 : snapM f r with
      | none => rw [e2] at e; cases e
      | some r' =>
        rw [e2] at e
        cases e
        obtain ⟨l, h⟩ := snapM_get r r' e2
        refine ⟨by simp [l], fun i mo hi => ?_⟩
        cases i with
        | zero => simp at hi; subst hi; exact ⟨m', rfl, e1⟩
        | succ i => exact h i mo (by simpa using hi)
theorem snap_mem (c : Cut ρ ρ') (m : MemOk K ρ' H μ2) (hn : ρ.st.Nodup) (hh : ∀ a ∈ ρ.hid, a ∉ ρ.st ∧ ∃ o, H a = some o) {k : Nat} {μ' : Mem} (e : snapM (snapAt ρ.st.length μ2 k) (μ2.take ρ.st.length) = some μ') : MemOk K ρ H μ' := by
  obtain ⟨hl, hg⟩ := snapM_get _ _ e
  have len : ρ.st.length ≤ μ2.length := by
    obtain ⟨new, e⟩ := c.pre
    rw [← m.len, e, List.length_append]; omega
  refine ⟨hn, by rw [hl, List.length_take]; omega, fun i a h => ?_, hh⟩
  have hi := (List.getElem?_eq_some_iff.mp h).1
  have h' : ρ'.st[i]? = some a := by
    obtain ⟨new, e⟩ := c.pre
    rw [e, List.getElem?_append_left hi]; exact h
  obtain ⟨mo, e1, mr⟩ := m.all i a h'
  obtain ⟨mo', e2, e3⟩ := hg i mo (by rw [List.getElem?_take_of_lt hi]; exact e1)
  refine ⟨mo', e2, ?_⟩
  cases mr with
  | @lst _ xs vs he rl =>
    simp only [snapMO] at e3
    cases e4 : snaps (snapAt ρ.st.length μ2 k) xs with
    | none => rw [e4] at e3; cases e3
    | some ys => rw [e4] at e3; cases e3; exact .lst he (snaps_rep c (snapAt_ok c m k) xs ys _ rl e4)
  | @dct _ kvs ks he rk =>
    simp only [snapMO] at e3
    cases e4 : snapk (snapAt ρ.st.length μ2 k) kvs with
    | none => rw [e4] at e3; cases e3
    | some ys => rw [e4] at e3; cases e3; exact .dct he (snapk_rep c (snapAt_ok c m k) kvs ys _ rk e4)
  | @lck _ o kvs ks he rk =>
    simp only [snapMO] at e3
    cases e4 : snapk (snapAt ρ.st.length μ2 k) kvs with
    | none => rw [e4] at e3; cases e3
    | some ys => rw [e4] at e3; cases e3; exact .lck he (snapk_rep c (snapAt_ok c m k) kvs ys _ rk e4)
theorem hid_later (m : MemOk K ρ H μ) (s : Step ρ H ρ' H') : ∀ a ∈ ρ.hid, a ∉ ρ.st ∧ ∃ o, H' a = some o := fun a ha => by
  obtain ⟨n, o, e⟩ := m.hid a ha
  exact ⟨n, s.isSome n e⟩
theorem cut_out {r : HP.R PV} {Q : VK} {W : Nat → Option Addr → Hp → Prop} {att : Nat → Str} (m : MemOk K ρ H μ) (o : Out K ρ H (cutR μ.length r) Q W att) : Out K ρ H r Q W att := by
  cases r with
  | bad => exact o
  | ok p μ2 =>
    simp only [cutR] at o
    split at o
    · exact o
    · intro ρ' H' v s m' rp
      split at o
      · rename_i p' μ' e1 e2
        rw [← m.len] at e1 e2
        exact o ρ H' v s.same (snap_mem s.cut m' m.nd (hid_later m s) e2) (snap_rep s.cut (snapAt_ok s.cut m' 20) p p' v rp e1)
      · exact o.elim
  | exc c p μ2 =>
    simp only [cutR] at o
    split at o
    · exact o
    · intro ρ' H' d v s m' hx rp
      split at o
      · rename_i p' μ' e1 e2
        rw [← m.len] at e1 e2
        exact o ρ H' d v s.same (snap_mem s.cut m' m.nd (hid_later m s) e2) hx (snap_rep s.cut (snapAt_ok s.cut m' 20) p p' v rp e1)
      · exact o.elim
/-! ### a call that shares nothing -/
mutual
theorem noRef_rep (h : ∀ a, a ∉ ρ.all → a ∉ ρ'.all) : ∀ (p : PV) (v : V), noRef p = true → Rep K ρ H p v → Rep K ρ' H p v
  | .non, _, _, r => by cases r; exact .non
  | .bl b, _, _, r => by cases r; exact .bl b
  | .int i, _, _, r => by cases r; exact .int i
  | .str s, _, _, r => by cases r; exact .str s
  | .scr ns, _, _, r => by
    cases r with
    | scr n e => exact .scr (h _ n) e
    | scrK e => exact .scrK e
  | .tup xs, _, e, r => by
    cases r with
    | tup n h1 d rl => exact .tup (h _ n) h1 d (noRefs_rep h xs _ e rl)
  | .lst xs, _, e, r => by
    cases r with
    | lst n h1 rl => exact .lst (h _ n) h1 (noRefs_rep h xs _ e rl)
  | .dct kvs, _, e, r => by
    cases r with
    | dct n h1 rl => exact .dct (h _ n) h1 (noRefk_rep h kvs _ e rl)
  | .ref i, _, e, r => by cases e
theorem noRefs_rep (h : ∀ a, a ∉ ρ.all → a ∉ ρ'.all) : ∀ (p : List PV) (v : List V), noRefs p = true → RepL K ρ H p v → RepL K ρ' H p v
  | [], _, _, r => by cases r; exact .nil
  | p :: ps, _, e, r => by
    simp only [noRefs, Bool.and_eq_true] at e
    cases r with
    | cons h1 t => exact .cons (noRef_rep h p _ e.1 h1) (noRefs_rep h ps _ e.2 t)
theorem noRefk_rep (h : ∀ a, a ∉ ρ.all → a ∉ ρ'.all) : ∀ (p : List (PV × PV)) (v : List (Key × V)), noRefk p = true → RepK K ρ H p v → RepK K ρ' H p v
  | [], _, _, r => by cases r; exact .nil
  | (k, p) :: ps, _, e, r => by
    simp only [noRefk, Bool.and_eq_true] at e
    cases r with
    | cons ek h1 t => exact .cons ek (noRef_rep h p _ e.1 h1) (noRefk_rep h ps _ e.2 t)
end
def Rho.bare (ρ : Rho) : Rho := ⟨[], ρ.all⟩
theorem bare_mem (m : MemOk K ρ H μ) : MemOk K ρ.bare H [] := by
  refine ⟨.nil, rfl, fun i a e => by simp [Rho.bare] at e, fun a ha => ⟨by simp [Rho.bare], ?_⟩⟩
  rcases List.mem_append.mp (show a ∈ ρ.st ++ ρ.hid from ha) with h | h
  · exact m.isSome h
  · exact (m.hid a h).2
theorem bare_all {a : Addr} : a ∉ ρ.all ↔ a ∉ ρ.bare.all := by simp [Rho.bare, Rho.all]
theorem bare_back (m : MemOk K ρ H μ) (s : Step ρ.bare H ρ' H') (m' : MemOk K ρ' H' []) : Step ρ H ρ H' ∧ MemOk K ρ H' μ ∧ ∀ p v, Rep K ρ' H' p v → Rep K ρ H' p v := by
  have hst : ρ'.st = [] := List.eq_nil_of_length_eq_zero (by rw [m'.len]; rfl)
  have hh : ρ'.hid = ρ.all := s.hid
  have st : Step ρ H ρ H' := ⟨⟨[], by simp, by simp⟩, rfl, fun a o n e => by
    rcases s.keep a o (by simp [Rho.bare]) e with q | ⟨nh, q⟩
    · exact .inl q
    · exact .inr ⟨fun z => nh (List.mem_append_right _ z), q⟩, s.frz⟩
  refine ⟨st, ⟨m.nd, m.len, fun i a e => ?_, hid_later m st⟩, fun p v r => r.reall (fun a n => ?_) fun n a e => ?_⟩
  · obtain ⟨mo, e1, mr⟩ := m.all i a e
    obtain ⟨u, eu⟩ := mr.isSome
    refine ⟨mo, e1, mr.step st ?_⟩
    rcases s.keep a u (by simp [Rho.bare]) eu with q | ⟨nh, q⟩
    · rw [q, eu]
    · exact absurd (List.mem_append_left _ (List.mem_of_getElem? e)) nh
  · obtain ⟨n1, n2⟩ := Rho.not_all.mp n
    rw [hh] at n2; exact n2
  · rw [hst] at e; simp at e
theorem fin_out {T : Tab} {r : Fl} {Q : VK} {E : XK} {n : Nat} (o : Out K ρ H r.fin Q (fun c dd H' => E (.ref (T.ca c)) dd H') T.att) : OutF K T ρ H r { nx := fun _ H' => Q .non H', rt := Q } (fun cls dd _ H => E cls dd H) n := by
  cases r with
  | nx ps μ => exact fun ρ' H' σ' s m _ _ => o ρ' H' .non s m .non
  | rt p μ => exact o
  | exc c x μ => exact fun ρ' H' d v σ' s m hx r _ => o ρ' H' d v s m hx r
  | bad => exact o
theorem st0_rep {N : List Str} {args : List PV} {vs : List V} (r : RepL K ρ H args vs) : StR K ρ H (st0 N.length args) (L2.start N vs) := by
  have none_ : ∀ k, StR K ρ H (List.replicate k none) (List.replicate k none) := fun k => by
    induction k with
    | zero => exact .nil
    | succ k ih => exact .no ih
  have app : ∀ {a : List PV} {b : List V} {c : PSt} {d : L2.St}, RepL K ρ H a b → StR K ρ H c d → StR K ρ H (a.map some ++ c) (b.map some ++ d) := by
    intro a
    induction a with
    | nil => intro b c d r s; cases r; exact s
    | cons x a ih =>
      intro b c d r s
      cases r with
      | cons h t => exact .so h (ih t s)
  unfold st0 L2.start
  rw [r.length]
  exact app r (none_ _)
end
end HP
set_option Elab.async false
set_option linter.all false
set_option maxRecDepth 100000
set_option maxHeartbeats 8000000
namespace HP
open PySem PySem.Spec PyProof.Rows L2

/-- one def of the text -/
structure FI where
  name : Str
  ps : List Str
  N : List Str
  args : Arguments
  body : List Stmt
  scope : Scope
/-- what is known of the program's heap -/
structure Facts (C : Cs) (P : Prog) (T : Tab) (infos : List FI) (fa : Nat → Addr) (K : PySem.W.Frag) (mg : Str → Option Value) : Prop where
  G : T.G = P.G
  fd : ∀ (j : Nat) (fi : FI), infos[j]? = some fi → mg fi.name = some (.ref (fa j)) ∧ ∃ fd, FunD K fi.name fi.name fi.args fi.body fi.scope [] [] (fa j) fd
  nm : ∀ (j : Nat) (x : Str), C.fns[j]? = some x → ∃ fi, infos[j]? = some fi ∧ fi.name = x
  bd : ∀ (j : Nat) (fi : FI), infos[j]? = some fi → ∀ (kV doc pm : Value) (an : Option Addr) (cdv ct : Value) (us : List Value), us.length = fi.ps.length → bindArgs (PySem.W.fnOf fi.name fi.name fi.args fi.body fi.scope .none kV doc pm an cdv ct) ⟨us, []⟩ = pure (fi.ps.zip us)
  kw : ∀ (j : Nat) (fi : FI), infos[j]? = some fi → ∀ n ks perm, (n, ks, perm) ∈ C.kws j → ∀ fd, FunD K fi.name fi.name fi.args fi.body fi.scope [] [] (fa j) fd → KBinds K fd fi.ps ks (fun us ws => pickV Value.none n ks.length us ws perm) (fun us ws => pickV V.non n ks.length us ws perm)
  pf : ∀ (j : Nat) (fi : FI), infos[j]? = some fi → ∃ fdc, P.fns[j]? = some fdc ∧ fdc.np = fi.ps.length ∧ fdc.nn = fi.N.length ∧ FnScope fi.N fi.ps fi.scope ∧ chkSL C fi.N (fun _ => true) fi.scope fdc.body fi.body = true
  gl : ∀ (i : Nat) (x : Str), C.gn[i]? = some x → ∃ (u : Value) (v : V), mg x = some u ∧ RelV v u ∧ ∀ p : PV, T.G[i]? = some p → ∀ ρ H, Rep K ρ H p v
  bl : ∀ x ∈ bltNames, mg x = none
  cls : ∀ (c : Nat) (x : Str), C.cn[c]? = some x → mg x = some (.ref (T.ca c))
  sb : SubAt K T P.isSub P.att
/-- a class of the text, whose __init__ keeps its promise -/
structure ClsK (Pr : Program) (w : World) (K : PySem.W.Frag) (mg : Str → Option Value) (base : Heap) (C : Cs) (T : Tab) : Prop where
  mk_ : ∀ (c : Nat) (x : Str), C.cn[c]? = some x → c ∈ C.rz → ∃ fI fd ps, OexC K (T.ca c) ∧ PySem.W.findIn K (.ref (T.ca c)) "__init__" = some (some (.ref fI)) ∧ PySem.W.typeIn K (.ref fI) = some (.type "function") ∧ Binds K fd ps [] ∧
    FnOk Pr w K mg base (L2.CX Pr w) 2 fI fd ps (spI K (T.ca c) (T.att c))
section
variable {Pr : Program} {w : World} {K : PySem.W.Frag} {mg : Str → Option Value} {base : Heap} {C : Cs} {P : Prog} {T : Tab} {infos : List FI} {fa : Nat → Addr}
theorem run_bad (P : Prog) (d j : Nat) (fdc : FD) (h : P.fns[j]? = some fdc) : ∀ xs μ, xs.length ≠ fdc.np → run P d j xs μ = .bad := by
  intro xs μ hl
  cases d with
  | zero => rfl
  | succ d =>
    have hb : Nat.beq xs.length fdc.np = false := by
      cases e : Nat.beq xs.length fdc.np with
      | false => rfl
      | true => exact absurd (Nat.eq_of_beq_eq_true e) hl
    simp only [run, h, bodyR, hb, Bool.false_eq_true, if_false]
    split <;> rfl
theorem fn_all (X : Facts C P T infos fa K mg) (Z : ClsK Pr w K mg base C T) : ∀ (d j : Nat) (fi : FI) (fd : FuncData), infos[j]? = some fi → FunD K fi.name fi.name fi.args fi.body fi.scope [] [] (fa j) fd →
    FnOk Pr w K mg base (L2.CX Pr w) (d + 4) (fa j) fd fi.ps (spF K T (run P d) fi.ps.length j) := by
  intro d
  induction d with
  | zero =>
    intro j fi fd hj F
    refine ⟨fun vs H Q E h => h.1, fun A outer s H args us vs Q E _ _ _ _ h => ?_⟩
    obtain ⟨_, ρ, μ, ps, _, _, o⟩ := h
    exact o.elim
  | succ d ih =>
    intro j fi fd hj F
    obtain ⟨fdc, hp, hnp, hnn, hsc, hck⟩ := X.pf j fi hj
    refine F.ok hsc (fun vs H Q E h => h.1) fun cdv A outer s H vs Q E hr h => ?_
    -- the context
    have tk := takes_of (X := cxOf (L2.CX Pr w) Pr w K mg base fi.N fi.name fi.scope (fa j) cdv A outer s H E) (E := E) (E₁ := fun e' s'' => L2.CX Pr w outer H s E e' s'') rfl rfl rfl rfl
    have pas := passes_of (X := cxOf (L2.CX Pr w) Pr w K mg base fi.N fi.name fi.scope (fa j) cdv A outer s H E) (K := fun e s'' => L2.CX Pr w outer H s E e s'') (E₁ := fun e' s'' => L2.CX Pr w outer H s E e' s'') rfl
    have g : Gs C T P.isSub P.att (run P d) (d + 4) (cxOf (L2.CX Pr w) Pr w K mg base fi.N fi.name fi.scope (fa j) cdv A outer s H E) (fun cls dd _ H => E cls dd H) := by
      refine ⟨⟨hsc.nd, rfl, hr, X.gl, X.bl, fun i x hx => ?_, tk⟩, by omega, pas, rfl, rfl, X.cls, fun c x hx hc => ?_, X.sb⟩
      · obtain ⟨fi2, hi2, rfl⟩ := X.nm i x hx
        obtain ⟨hm2, fd2, F2⟩ := X.fd i fi2 hi2
        obtain ⟨fdc2, hp2, hnp2, _⟩ := X.pf i fi2 hi2
        exact ⟨fa i, fd2, fi2.ps, ⟨hm2, F2.kp, F2.bindsN (X.bd i fi2 hi2), ih i fi2 fd2 hi2 F2, by rw [← hnp2]; exact run_bad P d i fdc2 hp2, fun n ks perm hk => X.kw i fi2 hi2 n ks perm hk fd2 F2⟩⟩
      · obtain ⟨fI, fd2, ps2, o1, o2, o3, o4, o5⟩ := Z.mk_ c x hx hc
        exact ⟨fI, fd2, ps2, ⟨X.cls c x hx, o1, o2, o3, o4, o5⟩⟩
    refine ⟨rdSL K T P.isSub P.att (run P d) (fun cls dd _ H => E cls dd H) fdc.body, sSL fdc.body fi.body _ _ g hck, ?_⟩
    obtain ⟨hl, ρ, μ, args, hm, ra, o⟩ := h
    have hbq : Nat.beq args.length fdc.np = true := by rw [hnp, ra.length, hl]; exact Nat.beq_refl _
    -- the body on a store
    have body : ∀ {ρ : Rho} {μ : Mem}, MemOk K ρ H μ → RepL K ρ H args vs → Out K ρ H (bodyR P (run P d) fdc args μ) Q (fun c dd H' => E (.ref (T.ca c)) dd H') T.att →
        rdSL K T P.isSub P.att (run P d) (fun cls dd _ H => E cls dd H) fdc.body { nx := fun _ H' => Q .non H', rt := Q } (L2.start fi.N vs) H := fun {ρ μ} hm ra o => by
      refine ⟨ρ, μ, st0 fi.N.length args, hm, st0_rep ra, ?_⟩
      simp only [bodyR, hbq, if_true] at o
      rw [hnn] at o
      rw [X.G]
      split at o
      · exact fin_out o
      · exact fin_out (cut_out hm o)
    simp only [run, hp] at o
    split at o
    · rename_i c
      simp only [Bool.and_eq_true] at c
      refine body (bare_mem hm) (noRefs_rep (fun a n => bare_all.mp n) args vs c.2 ra) ?_
      cases hb : bodyR P (run P d) fdc args [] with
      | bad => rw [hb] at o; exact o.elim
      | ok p m =>
        rw [hb] at o
        cases m with
        | cons _ _ => exact o.elim
        | nil =>
          intro ρ' H' v s' m' rp
          obtain ⟨a1, a2, a3⟩ := bare_back hm s' m'
          exact o ρ H' v a1 a2 (a3 _ _ rp)
      | exc c x m =>
        rw [hb] at o
        cases m with
        | cons _ _ => exact o.elim
        | nil =>
          intro ρ' H' d v s' m' hx rp
          obtain ⟨a1, a2, a3⟩ := bare_back hm s' m'
          exact o ρ H' d v a1 a2 hx (a3 _ _ rp)
    · exact body hm ra o
end
end HP
set_option Elab.async false
set_option linter.all false
set_option maxRecDepth 100000
set_option maxHeartbeats 8000000
namespace HP
open PySem PySem.Spec PyProof.Rows L2

/-! ### an own exception's __init__ -/
section
variable {X : Cx} {e : Expr} {es : List Expr} {ta : TA} {p1 p2 pos : Pos} {b : Str} {B : Addr}
/-- Base.__init__(self, ..), Base an own class without an __init__ of its own -/
theorem pe_ceinit {pl : Sem Bool} (hg : Gl X b) (hm : X.mg b = some (.ref B)) (hd : (b == ("__debug__" : Str)) = false) (r1 : PySem.W.specialIn X.K (.ref B) "__getattribute__" = some (some (.builtin "type.__getattribute__"))) (r2 : PySem.W.readsIn X.K B (.type "type") = true)
    (vV : PySem.W.findCls X.K (.ref B) (.type "type") "__init__" = some (.val (.builtin "ValueError.__init__"))) (ha : PA X (e :: es) ta)
    (hc : eval (.Call (.Attribute (.Name b p1) "__init__" p2) (e :: es) [] pos) X.env = (do
      let ov ← eval (.Name b p1) X.env
      standAt p2.atName
      let (f, first) ← holding [ov] (getMethod ov "__init__" pl)
      callWith pos f first (backTo pos (starEach (e :: es) X.env)) (backToKw pos (keywordEach [] X.env))))
    (he : starEach (e :: es) X.env = (false, eval e X.env) :: starEach es X.env) (hpl : (backTo pos (starEach es X.env)).any (·.1) = false) :
    PE X (.Call (.Attribute (.Name b p1) "__init__" p2) (e :: es) [] pos) (tVeI X.K ta) := by
  refine ⟨fun pins s σ H Q I h => ?_⟩
  refine PySem.W.methodCall_KW (ld_glob I hg hm ?_ hd) hc
  refine PySem.W.method_cls I.kIn r1 (PySem.W.cls_value I.kIn r2 vV (by decide +kernel) ?_)
  show wpAny _ _ (callWith pos (Value.builtin "ValueError.__init__") [] (backTo pos (starEach (e :: es) X.env)) []) _ _ _
  refine PyProof.Rows.callWith_method1 (thn (ha.run pos pins _ σ H _ (I.tok _) h) fun us s1 ⟨vs, H1, I1, r, a, C, ws, ev, hl, T, ea, q⟩ => ?_) he hpl
  subst ev
  cases r with
  | @cons _ u0 _ ur ra rr =>
    cases (show u0 = Value.ref a from ra)
    exact oinit_ok T I1 ea (by rw [← Paired.length rr, sizeLine_eq]; omega) fun s' J => ⟨.non, H1, J, rfl, q⟩
end
theorem eval_meth {b name : Str} {p1 apos pos : Pos} {args : List Expr} {env : Env} (hline : (apos.endLine == pos.line) = true) (hform : methodCallForm (args.length + ([] : List Keyword).length) (backTo pos (starEach args env)) (backToKw pos (keywordEach [] env)) = true) :
    eval (.Call (.Attribute (.Name b p1) name apos) args [] pos) env = (do
      let ov ← eval (.Name b p1) env
      standAt apos.atName
      let (f, first) ← holding [ov] (getMethod ov name (do return (← importBound (.Name b p1) env).getD true))
      callWith pos f first (backTo pos (starEach args env)) (backToKw pos (keywordEach [] env))) := by
  have hpos : methodCallPos true (.Name b p1) env apos pos = pure pos := by unfold methodCallPos; simp [hline]
  have hbase : attributeBase (.Name b p1) name env (eval (.Name b p1) env) = eval (.Name b p1) env := rfl
  rw [arm_eval_Call, hbase]
  unfold methodCall
  simp only [hform, hpos, calleeOf, if_true, pure_bind]
def chkInit (b att : Str) : List Stmt → Bool
  | [.Expr (.Call (.Attribute (.Name b' _) i ap) [.Name s _, .Constant (.str _) _ _] [] cp) _, .Assign [.Attribute (.Name s2 _) a _] (.Name g _) _] => (ap.endLine == cp.line) && (decide (b' = b) && (decide (i = "__init__") && (decide (s = "self") && (decide (s2 = "self") && (decide (a = att) && decide (g = "given"))))))
  | _ => false
theorem inv_init {b att : Str} {body : List Stmt} (h : chkInit b att body = true) : ∃ p1 p2 p3 m j p4 p5 p6 p7 p8 p9 p10, (p2.endLine == p5.line) = true ∧ body = [.Expr (.Call (.Attribute (.Name b p1) "__init__" p2) [.Name "self" p3, .Constant (.str m) j p4] [] p5) p6, .Assign [.Attribute (.Name "self" p7) att p8] (.Name "given" p9) p10] := by
  unfold chkInit at h
  split at h
  · simp only [Bool.and_eq_true, decide_eq_true_eq] at h
    obtain ⟨hl, rfl, rfl, rfl, rfl, rfl, rfl⟩ := h
    exact ⟨_, _, _, _, _, _, _, _, _, _, _, _, hl, rfl⟩
  · cases h
theorem init_ok {Pr : Program} {w : World} {K : PySem.W.Frag} {mg : Str → Option Value} {base : Heap} {qual b att : Str} {args : Arguments} {body : List Stmt} {scope : Scope} {f B C : Addr} {fd : FuncData} (F : FunD K "__init__" qual args body scope [] [] f fd) (h : chkInit b att body = true)
    (S : FnScope ["self", "given"] ["self", "given"] scope) (h1 : scope.names.lookup ("self" : Str) = some .local) (h2 : scope.names.lookup ("given" : Str) = some .local) (h3 : scope.names.lookup b = some .globalImplicit) (hd : (b == ("__debug__" : Str)) = false)
    (hm : mg b = some (.ref B)) (r1 : PySem.W.specialIn K (.ref B) "__getattribute__" = some (some (.builtin "type.__getattribute__"))) (r2 : PySem.W.readsIn K B (.type "type") = true) (vV : PySem.W.findCls K (.ref B) (.type "type") "__init__" = some (.val (.builtin "ValueError.__init__")))
    (T : OexC K C) (hno : PySem.W.findIn K (.ref C) att = some none) : FnOk Pr w K mg base (L2.CX Pr w) 2 f fd ["self", "given"] (spI K C att) := by
  obtain ⟨p1, p2, p3, m, j, p4, p5, p6, p7, p8, p9, p10, hline, rfl⟩ := inv_init h
  refine F.ok S (fun vs H Q E ⟨a, v, e, _⟩ => by subst e; rfl) fun cdv A outer s H vs Q E hr ⟨a, v, ev, ha, q⟩ => ?_
  subst ev
  refine ⟨_, pss_cons (ps_expr (pe_ceinit (X := cxOf (L2.CX Pr w) Pr w K mg base ["self", "given"] qual scope f cdv A outer s H E) h3 hm hd r1 r2 vV (pa_cons (pe_var (i := 0) rfl (.inl h1) (by decide) (by decide)) (pa_cons pe_str pa_nil rfl) rfl) (eval_meth hline rfl) rfl rfl) rfl)
    (pss_one (ps_ost (pe_var (i := 0) rfl (.inl h1) (by decide) (by decide)) (pe_var (i := 1) rfl (.inl h2) (by decide) (by decide)) rfl)), ?_⟩
  refine ⟨.ref a, rfl, a, C, [.str m], rfl, by simp, T, ha, v, rfl, .ref a, rfl, a, C, rfl, T, hno, .inl ⟨ha, fun dx hdx ne => ?_⟩⟩
  exact q dx hdx ne
/-! ### the classes' facts, as a look -/
def oexB (K : PySem.W.Frag) (C : Addr) : Bool := (match K.lookup C with
  | some ⟨.type "type", _, .cls cd, sl⟩ => (match cd.mro, sl.toList with
    | .ref C' :: bm, [_, _, _, _, some (.builtin n), _] => C' == C && (n == "ValueError.__new__" && (!cd.hasDel && (cd.hasDict && PySem.HandSPX.refsVE bm)))
    | _, _ => false)
  | _ => false) && (decide (PySem.W.findIn K (.ref C) "__setattr__" = some (some (.builtin "object.__setattr__"))) && (decide (PySem.W.subIn K (.ref C) (.type "BaseException") = some true) && (decide (PySem.W.typeIn K (.ref C) = some (.type "type")) && PySem.W.keepIn K (.ref C))))
theorem oexB_ok {K : PySem.W.Frag} {C : Addr} (h : oexB K C = true) : OexC K C := by
  unfold oexB at h
  simp only [Bool.and_eq_true, decide_eq_true_eq] at h
  obtain ⟨q, h1, h2, h3, h4⟩ := h
  refine ⟨?_, h1, h2, h3, h4⟩
  split at q
  · rename_i dd cd sl ho
    split at q
    · rename_i C' bm k0 k1 k2 k3 n k5 hm hs
      simp only [Bool.and_eq_true, beq_iff_eq, Bool.not_eq_true'] at q
      obtain ⟨rfl, rfl, hdel, hdict, hve⟩ := q
      obtain ⟨nm, bs, mro, ns, qn, hd, sn, sub, ab, col, del⟩ := cd
      dsimp only at hm hdel hdict
      subst hm hdel hdict
      have hsl : sl = #[k0, k1, k2, k3, some (.builtin "ValueError.__new__"), k5] := by
        obtain ⟨l⟩ := sl
        simp only at hs
        rw [hs]
      subst hsl
      exact ⟨nm, qn, ns, bs, bm, sn, sub, ab, col, dd, k0, k1, k2, k3, k5, ho, hve⟩
    · cases q
  · cases q
def excB (K : PySem.W.Frag) (D : Addr) : Bool := decide (PySem.W.findIn K (.ref D) "__getattribute__" = some (some (.builtin "BaseException.__getattribute__"))) && (decide (PySem.W.findIn K (.ref D) "__getattr__" = some none) && (decide (PySem.W.subIn K (.ref D) (.type "BaseException") = some true) && (PySem.W.hasDictIn K D &&
  (decide (PySem.W.findIn K (.ref D) "__class__" = some (some (.builtin "object.__class__"))) && (decide (PySem.W.specialIn K (.builtin "object.__class__") "__get__" = some (some (.builtin "getset_descriptor.__get__"))) && (decide (PySem.W.takesIn K (.builtin "object.__class__") = some true) && decide (PySem.W.mroIn K D (.type "object") = some true)))))))
theorem excB_ok {K : PySem.W.Frag} {D : Addr} (h : excB K D = true) : L2.ExcC K D := by
  unfold excB at h
  simp only [Bool.and_eq_true, decide_eq_true_eq] at h
  obtain ⟨a1, a2, a3, a4, a5, a6, a7, a8⟩ := h
  exact ⟨a1, a2, a3, a4, a5, a6, a7, a8⟩
end HP
set_option Elab.async false
set_option linter.all false
set_option maxRecDepth 100000
set_option maxHeartbeats 8000000
namespace HP
open PySem PySem.Spec PyProof.Rows L2

/-! ### from the head's look to the facts -/
structure CI where
  name : Str
  base : Str
  args : Arguments
  body : List Stmt
  scope : Scope
structure Src where
  P : Prog
  infos : List FI
  cls : List (Str × Option CI)
  gls : List (Str × PV)
  kws : Nat → List (Nat × List Str × List Nat)
def Src.C (S : Src) : Cs := { fns := S.infos.map (·.name), gn := S.gls.map (·.1), kws := S.kws, cn := S.cls.map (·.1), rz := (List.range S.cls.length).filter fun c => match S.cls[c]? with
  | some (_, some _) => true
  | _ => false }
def Src.ca (S : Src) (K : PySem.W.Frag) (c : Nat) : Addr := match S.cls[c]? with
  | some (x, _) => He.ga K x
  | none => 0
def Src.T (S : Src) (K : PySem.W.Frag) : Tab := { fns := S.infos.map (·.name), gn := S.gls.map (·.1), G := S.P.G, ca := S.ca K, att := fun c => ⟨(S.P.att c).toArray⟩ }
def FI.dD (f : FI) : He.DefD := ⟨(f.name, none), f.name, f.name, f.args, f.body, f.scope, [], []⟩
def CI.qual (c : CI) : Str := c.name ++ ".__init__"
def CI.dD (c : CI) (q : Str) : He.DefD := ⟨(c.name, some "__init__"), "__init__", q, c.args, c.body, c.scope, [], []⟩
def Src.inits (S : Src) : List CI := S.cls.filterMap (·.2)
def Src.defs (S : Src) : List He.DefD := S.infos.map FI.dD ++ S.inits.map fun c => c.dD c.qual
def glB (K : PySem.W.Frag) : Str × PV → Bool
  | (x, .int i) => (He.Fa.int x i).ok K
  | (x, .str s) => (He.Fa.str x ⟨s.toArray⟩).ok K
  | _ => false
def ciB (K : PySem.W.Frag) (T : Tab) (c : Nat) (i : CI) : Bool := oexB K (He.ga K i.name) && (decide (PySem.W.findIn K (.ref (He.ga K i.name)) "__init__" = some (some (.ref (He.ma K (He.ga K i.name) "__init__")))) && (decide (PySem.W.typeIn K (.ref (He.ma K (He.ga K i.name) "__init__")) = some (.type "function")) &&
  (decide (PySem.W.findIn K (.ref (He.ga K i.name)) (T.att c) = some none) && (decide (PySem.W.specialIn K (.ref (He.ga K i.base)) "__getattribute__" = some (some (.builtin "type.__getattribute__"))) && (PySem.W.readsIn K (He.ga K i.base) (.type "type") && (match PySem.W.findCls K (.ref (He.ga K i.base)) (.type "type") "__init__" with
    | some (.val (.builtin n)) => n == "ValueError.__init__"
    | _ => false))))))
def subB (K : PySem.W.Frag) (S : Src) : Bool := (List.range S.P.sub.length).all fun c => (List.range S.P.sub.length).all fun d => match S.P.isSub c d with
  | some b => decide (PySem.W.exmOne K (.ref ((S.T K).ca c)) (.ref ((S.T K).ca d)) = some b) && (decide (PySem.W.kitOne K (.ref ((S.T K).ca c)) (.ref ((S.T K).ca d)) = some b) && (excB K ((S.T K).ca c) && ((PySem.W.clsIn K ((S.T K).ca c)).isSome && (xfB K ((S.T K).ca c) && decide (PySem.W.findIn K (.ref ((S.T K).ca c)) ((S.T K).att c) = some none)))))
  | none => true
def exB (S : Src) (K : PySem.W.Frag) : Bool := (S.infos.all fun f => (He.Fa.glo f.name).ok K) && ((S.cls.all fun c => (He.Fa.glo c.1).ok K) && ((bltNames.all fun x => (He.Fa.free x).ok K) && (S.gls.all (glB K) && (((List.range S.cls.length).all fun c => match S.cls[c]? with
  | some (_, some i) => ciB K (S.T K) c i
  | _ => true) && subB K S))))
/-! ### the Hook -/
abbrev AlX : Type := Bool × He.AlD
def asX (g : Addr → Option Obj) (n : Nat) : List Addr := He.asD g n ++ [cStatics]
def obsX (n : Nat) (S : Src) (g : Addr → Option Obj) : AlX := (exB S (He.frG g (asX g n)), He.obsD [] S.defs (He.frG g (asX g n)))
def hookX (n : Nat) (S : Src) : PySem.W.Hook where
  α := AlX
  obs := fun s => obsX n S s.heap.get?
  val := fun _ => (true, He.valD S.defs)
  says := fun _ h => ∃ K : PySem.W.Frag, K.In h ∧ exB S K = true ∧ He.SaysD [] S.defs K
  of := fun _ _ e => ⟨_, He.frG_in, congrArg Prod.fst e, congrArg Prod.snd e⟩
  keeps := fun _ _ _ ⟨K, hK, c⟩ k => ⟨K, PySem.W.Frag.In.keeps hK k, c⟩
theorem obsX_eq {n : Nat} {S : Src} {g : Addr → Option Obj} {s : Shared} (h : ∀ a, g a = s.heap.get? a) : obsX n S g = (hookX n S).obs s := by
  have e : g = s.heap.get? := funext h
  rw [e] <;> rfl
/-! ### what must be so of the text alone -/
structure Stat (S : Src) : Prop where
  glen : S.gls.map (·.2) = S.P.G
  sub : S.P.sub.length = S.cls.length
  subr : ∀ l ∈ S.P.sub, l.length = S.cls.length
  nms : ∀ c x i, S.cls[c]? = some (x, some i) → i.name = x ∧ chkInit i.base ⟨(S.P.att c).toArray⟩ i.body = true ∧ FnScope ["self", "given"] ["self", "given"] i.scope ∧ i.scope.names.lookup ("self" : Str) = some .local ∧ i.scope.names.lookup ("given" : Str) = some .local ∧ i.scope.names.lookup i.base = some .globalImplicit ∧ (i.base == ("__debug__" : Str)) = false ∧ i.base ∈ S.cls.map (·.1)
  bd : ∀ (j : Nat) (fi : FI), S.infos[j]? = some fi → ∀ (kV doc pm : Value) (an : Option Addr) (cdv ct : Value) (us : List Value), us.length = fi.ps.length → bindArgs (PySem.W.fnOf fi.name fi.name fi.args fi.body fi.scope .none kV doc pm an cdv ct) ⟨us, []⟩ = pure (fi.ps.zip us)
  bdi : ∀ i ∈ S.inits, ∀ (kV doc pm : Value) (an : Option Addr) (cdv ct : Value) (us : List Value), us.length = 2 → bindArgs (PySem.W.fnOf "__init__" i.qual i.args i.body i.scope .none kV doc pm an cdv ct) ⟨us, []⟩ = pure ((["self", "given"] : List Str).zip us)
  kw : ∀ (j : Nat) (fi : FI), S.infos[j]? = some fi → ∀ n ks perm, (n, ks, perm) ∈ S.kws j → ∀ (kV doc pm : Value) (an : Option Addr) (cdv ct : Value) (us ws : List Value), us.length = n → ws.length = ks.length →
    bindArgs (PySem.W.fnOf fi.name fi.name fi.args fi.body fi.scope .none kV doc pm an cdv ct) ⟨us, ks.zip ws⟩ = pure (fi.ps.zip (perm.map fun i => (us ++ ws).getD i Value.none))
  pnz : ∀ (j : Nat) (fi : FI), S.infos[j]? = some fi → S.kws j ≠ [] → fi.ps ≠ []
  pf : ∀ (j : Nat) (fi : FI), S.infos[j]? = some fi → ∃ fdc, S.P.fns[j]? = some fdc ∧ fdc.np = fi.ps.length ∧ fdc.nn = fi.N.length ∧ FnScope fi.N fi.ps fi.scope ∧ chkSL S.C fi.N (fun _ => true) fi.scope fdc.body fi.body = true

def Src.fa (S : Src) (K : PySem.W.Frag) (j : Nat) : Addr := match S.infos[j]? with
  | some f => He.ga K f.name
  | none => 0
section
variable {S : Src} {K : PySem.W.Frag} {h : Heap} {mg : Str → Option Value}
theorem Src.def1 (c : He.SaysD [] S.defs K) {j : Nat} {f : FI} (e : S.infos[j]? = some f) : ∃ fd, FunD K f.name f.name f.args f.body f.scope [] [] (He.ga K f.name) fd := by
  have hj := (List.getElem?_eq_some_iff.mp e).1
  have e2 : S.defs[j]? = some f.dD := by
    unfold Src.defs
    rw [List.getElem?_append_left (by simpa using hj), List.getElem?_map, e]; rfl
  exact c.def_ j e2
theorem Src.def2 (c : He.SaysD [] S.defs K) {i : CI} (e : i ∈ S.inits) : ∃ fd, FunD K "__init__" i.qual i.args i.body i.scope [] [] (He.ma K (He.ga K i.name) "__init__") fd := by
  obtain ⟨k, hk⟩ := List.getElem?_of_mem e
  have e2 : S.defs[S.infos.length + k]? = some (i.dD i.qual) := by
    unfold Src.defs
    rw [List.getElem?_append_right (by simp), List.length_map, Nat.add_sub_cancel_left, List.getElem?_map, hk]; rfl
  exact c.def_ _ e2
theorem facts_of (st : Stat S) (X : K.In h) (G : h.Ns mainGlobals mg) (ex : exB S K = true) (c : He.SaysD [] S.defs K) : Facts S.C S.P (S.T K) S.infos (S.fa K) K mg ∧ ∀ Pr w base, ClsK Pr w K mg base S.C (S.T K) := by
  unfold exB at ex
  simp only [Bool.and_eq_true] at ex
  obtain ⟨e1, e2, e3, e4, e5, e6⟩ := ex
  have cls : ∀ (c : Nat) (x : Str), S.C.cn[c]? = some x → mg x = some (.ref ((S.T K).ca c)) := fun c x hx => by
    have hx : (S.cls.map (·.1))[c]? = some x := hx
    rw [List.getElem?_map] at hx
    cases hc : S.cls[c]? with
    | none => rw [hc] at hx; cases hx
    | some q =>
      rw [hc] at hx
      have ex : q.1 = x := Option.some.inj hx
      have := He.glo_ok X G (List.all_eq_true.mp e2 q (List.mem_of_getElem? hc))
      have ea : (S.T K).ca c = He.ga K q.1 := by
        show (match S.cls[c]? with | some (x, _) => He.ga K x | none => 0) = _
        rw [hc]
      rw [ea, ← ex]; exact this
  have sb : SubAt K (S.T K) S.P.isSub S.P.att := by
    have look : ∀ c d b, S.P.isSub c d = some b → (decide (PySem.W.exmOne K (.ref ((S.T K).ca c)) (.ref ((S.T K).ca d)) = some b) && (decide (PySem.W.kitOne K (.ref ((S.T K).ca c)) (.ref ((S.T K).ca d)) = some b) && (excB K ((S.T K).ca c) && ((PySem.W.clsIn K ((S.T K).ca c)).isSome && (xfB K ((S.T K).ca c) && decide (PySem.W.findIn K (.ref ((S.T K).ca c)) ((S.T K).att c) = some none)))))) = true := fun c d b hb => by
      have hc : c < S.P.sub.length ∧ d < S.P.sub.length := by
        have hb' := hb
        unfold Prog.isSub at hb'
        split at hb'
        · rename_i l hl
          have h1 := (List.getElem?_eq_some_iff.mp hl).1
          have h2 := (List.getElem?_eq_some_iff.mp hb').1
          rw [st.subr l (List.mem_of_getElem? hl)] at h2
          exact ⟨h1, by rw [st.sub]; exact h2⟩
        · cases hb'
      have z := List.all_eq_true.mp (List.all_eq_true.mp e6 c (List.mem_range.mpr hc.1)) d (List.mem_range.mpr hc.2)
      rw [hb] at z
      exact z
    refine ⟨fun c d b hb => ?_, fun c d b hb => ?_, fun c => rfl⟩
    · have z := look c d b hb
      simp only [Bool.and_eq_true, decide_eq_true_eq] at z
      exact ⟨z.1, z.2.1⟩
    · have z := look c d b hb
      simp only [Bool.and_eq_true, decide_eq_true_eq] at z
      obtain ⟨_, _, z1, z2, z3, z4⟩ := z
      exact ⟨excB_ok z1, z2, xfB_ok z3, z4⟩
  have fae : ∀ (j : Nat) (fi : FI), S.infos[j]? = some fi → S.fa K j = He.ga K fi.name := fun j fi hj => by
    unfold Src.fa
    rw [hj]
  refine ⟨⟨rfl, fun j fi hj => ?_, fun j x hx => ?_, st.bd, fun j fi hj n ks perm hk fd F => ?_, st.pf, fun i x hx => ?_, fun x hx => He.free_ok X G (List.all_eq_true.mp e3 x hx), cls, sb⟩, fun Pr w base => ⟨fun c' x hx hr => ?_⟩⟩
  · rw [fae j fi hj]
    exact ⟨He.glo_ok X G (List.all_eq_true.mp e1 fi (List.mem_of_getElem? hj)), Src.def1 c hj⟩
  · have hx : (S.infos.map (·.name))[j]? = some x := hx
    rw [List.getElem?_map] at hx
    cases hc : S.infos[j]? with
    | none => rw [hc] at hx; cases hx
    | some fi => rw [hc] at hx; exact ⟨fi, rfl, Option.some.inj hx⟩
  · obtain ⟨oc, od, dV, kV, doc, pm, an, cdv, ct, osl, rfl, lk, hcd, hD, hK⟩ := F.ex
    rcases hD with ⟨_, rfl⟩ | ⟨e, _⟩
    · refine ⟨fun s us ws _ hl => ?_, fun r r2 => pickV_rel r r2⟩
      unfold pickV at hl ⊢
      split at hl
      · rename_i hlen
        rw [if_pos hlen]
        exact .of_eq (st.kw j fi hj n ks perm hk kV doc pm an cdv ct us ws hlen.1 hlen.2)
      · have hne := st.pnz j fi hj (fun z => by have hk : (n, ks, perm) ∈ S.kws j := hk; rw [z] at hk; cases hk)
        exact absurd (List.eq_nil_of_length_eq_zero hl.symm) hne
    · exact absurd rfl e
  · have hx : (S.gls.map (·.1))[i]? = some x := hx
    rw [List.getElem?_map] at hx
    cases hc : S.gls[i]? with
    | none => rw [hc] at hx; cases hx
    | some q =>
      rw [hc] at hx
      obtain ⟨x', p⟩ := q
      have ex : x' = x := Option.some.inj hx
      subst ex
      have hg := List.all_eq_true.mp e4 _ (List.mem_of_getElem? hc)
      have hp : S.P.G[i]? = some p := by rw [← st.glen, List.getElem?_map, hc]; rfl
      cases p with
      | int n =>
        obtain ⟨t, ht⟩ := He.int_ok X G (show (He.Fa.int x' n).ok K = true from hg)
        refine ⟨_, .int n, ht, ⟨t, rfl⟩, fun p h2 ρ H => ?_⟩
        have h2 : S.P.G[i]? = some p := h2
        rw [hp] at h2; cases h2; exact .int n
      | str z =>
        obtain ⟨t, ht⟩ := He.str_ok X G (show (He.Fa.str x' ⟨z.toArray⟩).ok K = true from hg)
        refine ⟨_, .str ⟨z.toArray⟩, ht, ⟨t, rfl⟩, fun p h2 ρ H => ?_⟩
        have h2 : S.P.G[i]? = some p := h2
        rw [hp] at h2; cases h2; exact .str z
      | _ => exact (Bool.false_ne_true hg).elim
  · have hx' : (S.cls.map (·.1))[c']? = some x := hx
    rw [List.getElem?_map] at hx'
    cases hc : S.cls[c']? with
    | none => rw [hc] at hx'; cases hx'
    | some q =>
      obtain ⟨x', oi⟩ := q
      rw [hc] at hx'
      have ex : x' = x := Option.some.inj hx'
      subst ex
      have hr : c' ∈ (List.range S.cls.length).filter fun c => match S.cls[c]? with
        | some (_, some _) => true
        | _ => false := hr
      obtain ⟨hlt, hr2⟩ := List.mem_filter.mp hr
      rw [hc] at hr2
      cases oi with
      | none => cases hr2
      | some i =>
        have hin : i ∈ S.inits := List.mem_filterMap.mpr ⟨(x', some i), List.mem_of_getElem? hc, rfl⟩
        obtain ⟨n1, n2, n3, n4, n5, n6, n7, n8⟩ := st.nms c' x' i hc
        obtain ⟨fd, F⟩ := Src.def2 c hin
        have z := List.all_eq_true.mp e5 c' hlt
        rw [hc] at z
        have z : ciB K (S.T K) c' i = true := z
        unfold ciB at z
        simp only [Bool.and_eq_true, decide_eq_true_eq] at z
        obtain ⟨o1, o2, o3, o4, o5, o6, o7⟩ := z
        have ea : (S.T K).ca c' = He.ga K i.name := by
          show (match S.cls[c']? with | some (x, _) => He.ga K x | none => 0) = _
          rw [hc, n1]
        have vV : PySem.W.findCls K (.ref (He.ga K i.base)) (.type "type") "__init__" = some (.val (.builtin "ValueError.__init__")) := by
          split at o7
          · rename_i nn hn
            rw [hn, beq_iff_eq.mp o7]
          · cases o7
        obtain ⟨q, hq, eq⟩ := List.mem_map.mp n8
        have hb : mg i.base = some (.ref (He.ga K i.base)) := by
          rw [← eq]; exact He.glo_ok X G (List.all_eq_true.mp e2 q hq)
        rw [ea]
        refine ⟨_, fd, ["self", "given"], oexB_ok o1, o2, o3, F.bindsN fun kV doc pm an cdv ct us hl => st.bdi i hin kV doc pm an cdv ct us hl, ?_⟩
        exact init_ok F n2 n3 n4 n5 n6 n7 hb o5 o6 vV (oexB_ok o1) o4
end
end HP
set_option Elab.async false
set_option linter.all false
set_option maxRecDepth 100000
set_option maxHeartbeats 8000000
namespace HP
open PySem PySem.Spec PyProof.Rows L2

/-! ### the text's own facts, by computation -/
def AllP {α : Type} (P : α → Prop) : List α → Prop
  | [] => True
  | x :: r => P x ∧ AllP P r
theorem AllP.mem {α : Type} {P : α → Prop} : ∀ {l : List α}, AllP P l → ∀ x ∈ l, P x
  | _ :: _, h, x, hx => by
    cases hx with
    | head => exact h.1
    | tail _ hx => exact AllP.mem h.2 x hx
theorem look_bq {l : List (Str × NameKind)} {x : Str} {k : NameKind} (h : (l.lookup x == some k) = true) : l.lookup x = some k := by
  cases e : l.lookup x with
  | none => rw [e] at h; cases h
  | some k' =>
    rw [e] at h
    have h : (k' == k) = true := h
    rw [beq_iff_eq.mp h]
def fnScopeB (N ps : List Str) (sc : Scope) : Bool := (sc.kind == .function) && (!sc.isCoroutine && (!sc.isGenerator && (decide N.Nodup && (decide (N.take ps.length = ps) && (ps.all (fun x => (sc.names.lookup x == some .local) || (sc.names.lookup x == some .cell)) && sc.names.all fun y => decide (y.2 ≠ .free))))))
theorem fnScope_of {N ps : List Str} {sc : Scope} (h : fnScopeB N ps sc = true) : FnScope N ps sc := by
  unfold fnScopeB at h
  simp only [Bool.and_eq_true, Bool.not_eq_true', decide_eq_true_eq, List.all_eq_true, Bool.or_eq_true] at h
  obtain ⟨h1, h2, h3, h4, h5, h6, h7⟩ := h
  refine ⟨?_, h2, h3, h4, h5, fun x hx => ?_, fun y hy => h7 y hy⟩
  · revert h1; cases sc.kind <;> first | exact fun _ => rfl | exact fun z => absurd z (by decide)
  · rcases h6 x hx with z | z
    · exact Or.inl (look_bq z)
    · exact Or.inr (look_bq z)
def BdP (fi : FI) : Prop := ∀ (kV doc pm : Value) (an : Option Addr) (cdv ct : Value) (us : List Value), us.length = fi.ps.length → bindArgs (PySem.W.fnOf fi.name fi.name fi.args fi.body fi.scope .none kV doc pm an cdv ct) ⟨us, []⟩ = pure (fi.ps.zip us)
def BiP (i : CI) : Prop := ∀ (kV doc pm : Value) (an : Option Addr) (cdv ct : Value) (us : List Value), us.length = 2 → bindArgs (PySem.W.fnOf "__init__" i.qual i.args i.body i.scope .none kV doc pm an cdv ct) ⟨us, []⟩ = pure ((["self", "given"] : List Str).zip us)
def KwP (infos : List FI) (q : Nat × Nat × List Str × List Nat) : Prop := ∃ fi, infos[q.1]? = some fi ∧ (∀ (kV doc pm : Value) (an : Option Addr) (cdv ct : Value) (us ws : List Value), us.length = q.2.1 → ws.length = q.2.2.1.length →
  bindArgs (PySem.W.fnOf fi.name fi.name fi.args fi.body fi.scope .none kV doc pm an cdv ct) ⟨us, q.2.2.1.zip ws⟩ = pure (fi.ps.zip (q.2.2.2.map fun i => (us ++ ws).getD i Value.none))) ∧ fi.ps ≠ []
def mkSrc (P : Prog) (infos : List FI) (cls : List (Str × Option CI)) (gls : List (Str × PV)) (kwl : List (Nat × Nat × List Str × List Nat)) : Src := ⟨P, infos, cls, gls, fun j => (kwl.filter fun q => q.1 == j).map (·.2)⟩
def nmsB (S : Src) (c : Nat) : Bool := match S.cls[c]? with
  | some (x, some i) => decide (i.name = x) && (chkInit i.base ⟨(S.P.att c).toArray⟩ i.body && (fnScopeB ["self", "given"] ["self", "given"] i.scope && ((i.scope.names.lookup ("self" : Str) == some .local) && ((i.scope.names.lookup ("given" : Str) == some .local) && ((i.scope.names.lookup i.base == some .globalImplicit) && (!(i.base == ("__debug__" : Str)) && decide (i.base ∈ S.cls.map (·.1))))))))
  | _ => true
def pfB (S : Src) (j : Nat) : Bool := match S.infos[j]?, S.P.fns[j]? with
  | some fi, some fdc => Nat.beq fdc.np fi.ps.length && (Nat.beq fdc.nn fi.N.length && (fnScopeB fi.N fi.ps fi.scope && chkSL S.C fi.N (fun _ => true) fi.scope fdc.body fi.body))
  | _, _ => false
def statB (S : Src) : Bool := Nat.beq S.P.sub.length S.cls.length && (S.P.sub.all (fun l => Nat.beq l.length S.cls.length) && ((List.range S.cls.length).all (nmsB S) && (List.range S.infos.length).all (pfB S)))
theorem stat_of {P : Prog} {infos : List FI} {cls : List (Str × Option CI)} {gls : List (Str × PV)} {kwl : List (Nat × Nat × List Str × List Nat)} (hg : gls.map (·.2) = P.G) (h : statB (mkSrc P infos cls gls kwl) = true) (b : AllP BdP infos) (bi : AllP BiP (cls.filterMap (·.2))) (k : AllP (KwP infos) kwl) : Stat (mkSrc P infos cls gls kwl) := by
  unfold statB at h
  simp only [Bool.and_eq_true, List.all_eq_true] at h
  obtain ⟨h1, h2, h3, h4⟩ := h
  have kk : ∀ j n ks perm, (n, ks, perm) ∈ (mkSrc P infos cls gls kwl).kws j → (j, n, ks, perm) ∈ kwl := fun j n ks perm hk => by
    obtain ⟨q, hq, e⟩ := List.mem_map.mp hk
    obtain ⟨hq1, hq2⟩ := List.mem_filter.mp hq
    obtain ⟨a, b⟩ := q
    have e : b = _ := e
    have ea : a = j := beq_iff_eq.mp hq2
    subst ea; subst e
    exact hq1
  refine ⟨hg, Nat.eq_of_beq_eq_true h1, fun l hl => Nat.eq_of_beq_eq_true (h2 l hl), fun c x i hc => ?_, fun j fi hj => b.mem fi (List.mem_of_getElem? hj), fun i hi => bi.mem i hi, fun j fi hj n ks perm hk => ?_, fun j fi hj hk => ?_, fun j fi hj => ?_⟩
  · have z := h3 c (List.mem_range.mpr (List.getElem?_eq_some_iff.mp hc).1)
    unfold nmsB at z
    rw [hc] at z
    simp only [Bool.and_eq_true, decide_eq_true_eq, Bool.not_eq_true'] at z
    obtain ⟨z1, z2, z3, z4, z5, z6, z7, z8⟩ := z
    exact ⟨z1, z2, fnScope_of z3, look_bq z4, look_bq z5, look_bq z6, z7, z8⟩
  · obtain ⟨fi2, e, z, _⟩ := k.mem _ (kk j n ks perm hk)
    have e : infos[j]? = some fi2 := e
    have hj : infos[j]? = some fi := hj
    rw [hj] at e; cases e
    exact z
  · cases hkl : (mkSrc P infos cls gls kwl).kws j with
    | nil => exact absurd hkl hk
    | cons q r =>
      obtain ⟨n, ks, perm⟩ := q
      obtain ⟨fi2, e, _, z⟩ := k.mem _ (kk j n ks perm (by rw [hkl]; exact List.mem_cons_self))
      have e : infos[j]? = some fi2 := e
      have hj : infos[j]? = some fi := hj
      rw [hj] at e; cases e
      exact z
  · have z := h4 j (List.mem_range.mpr (List.getElem?_eq_some_iff.mp hj).1)
    unfold pfB at z
    rw [hj] at z
    split at z
    · rename_i fi2 fdc e1 e2
      cases e1
      simp only [Bool.and_eq_true] at z
      obtain ⟨z1, z2, z3, z4⟩ := z
      exact ⟨fdc, e2, Nat.eq_of_beq_eq_true z1, Nat.eq_of_beq_eq_true z2, fnScope_of z3, z4⟩
    · cases z
/-- a class def's first statement -/
def clsFst (s : Stmt) : Stmt := match s with
  | .ClassDef _ _ _ (b :: _) _ _ _ _ _ _ _ => b
  | s => s
def FI.mk2 (x : Str) (ps N : List Str) (s : Stmt) : FI := ⟨x, ps, N, defArgs s, defBody s, defScope s⟩
def CI.mk2 (x b : Str) (s : Stmt) : CI := ⟨x, b, defArgs s, defBody s, defScope s⟩
end HP
set_option Elab.async false
set_option linter.all false
set_option maxRecDepth 100000
set_option maxHeartbeats 8000000
namespace HP
open PySem PySem.Spec PyProof.Rows L2

/-! ### the last step: a law whose run says True -/
theorem law_end {l : PySem.W.OpenLaw} {S : Src} {q : Program} {loose : List Str} {XP : (Str → Option Value) → Heap → Prop} {dr : DefRec} {j n d : Nat} {fi : FI} (st : Stat S) (hn : l.most = some 63) (hdf : dr.params.defaults = []) (hj : S.infos[j]? = some fi) (hps : fi.ps = (["script"] : List Str)) (hname : dr.name = fi.name)
    (hr : Room (d + 4) callerA) (plain : ∀ ns : List Int, ns.length ≤ 63 → run S.P d j [.scr ns] [] = .ok (.bl true) []) :
    PySem.W.WalkO q loose XP (hookX n S).says l.row.toRowW dr [] (fun f vs => PySem.call f vs) := by
  refine Att.attach_call hn hdf fun w s₀ s₁ mg mb fa o pm cd doc a vs ns G Y ho hd hcd hmg hobj hints hlen hg => ?_
  obtain ⟨K, KX, ex, c⟩ := Y
  obtain ⟨X, Z⟩ := facts_of st KX G.T.g ex c
  obtain ⟨hm, fd, F⟩ := X.fd j fi hj
  have e : fa = S.fa K j := by
    have e1 := hmg.symm.trans (hname ▸ hm)
    injection e1 with e1; injection e1
  subst e
  have hb : ∀ (s : Shared) (u : Value), BindsTo s fd ⟨[u], []⟩ [("script", u)] := fun s u => by
    have b := FunD.bindsA (ps := fi.ps) F fun kV doc pm an cdv ct us hl => X.bd j fi hj kV doc pm an cdv ct us hl
    have z := b s [u] (by rw [hps]; rfl)
    rw [hps] at z
    exact z
  refine law_call (CX := L2.CX l.prog w) (sp := spF K (S.T K) (run S.P d) fi.ps.length j) (k := d + 4) (fd := fd) (ns := ns) (x := "script") KX G.T.g G.T.b G.T.builtins G.T.nolimit hg hobj hints (Nat.le_trans hlen (by decide)) hr (fun base _ _ => ?_) hb (fun H hO hS => ?_) fun H e s' h => ?_
  · rw [← hps]
    exact fn_all X (Z l.prog w base) d j fi fd hj F
  · refine ⟨by rw [hps]; rfl, ⟨[], []⟩, [], [.scr ns], ⟨List.nodup_nil, rfl, fun i a h => by simp at h, fun a h => by cases h⟩, .cons ?_ .nil, ?_⟩
    · rcases hS with h | h
      · exact .scr (by simp [Rho.all]) h
      · exact .scrK h
    · rw [plain ns hlen]
      intro ρ' H' v _ _ r
      cases r; rfl
  · obtain ⟨_, _, _, _, _, _, _, _, _, _, _, _, z⟩ := h
    exact z
end HP
set_option Elab.async false
set_option linter.all false
set_option maxRecDepth 10000
set_option maxHeartbeats 400000
namespace HP
open PySem PySem.Spec PyProof.Rows L2

/-! ### rules for a symbolic reading -/
theorem bind_ok {α β : Type} {a : α} {μ : Mem} {f : α → Mem → R β} : (R.ok a μ).bind f = f a μ := id rfl
theorem bind_exc {α β : Type} {c : Nat} {x : PV} {μ : Mem} {f : α → Mem → R β} : (R.exc c x μ : R α).bind f = .exc c x μ := id rfl
theorem fl_ok {α : Type} {a : α} {μ : Mem} {f : α → Mem → Fl} : (R.ok a μ).fl f = f a μ := id rfl
theorem fl_exc {α : Type} {c : Nat} {x : PV} {μ : Mem} {f : α → Mem → Fl} : (R.exc c x μ : R α).fl f = .exc c x μ := id rfl
theorem flnx {σ : PSt} {μ : Mem} {f : PSt → Mem → Fl} : (Fl.nx σ μ).fl f = f σ μ := id rfl
theorem flrt {p : PV} {μ : Mem} {f : PSt → Mem → Fl} : (Fl.rt p μ).fl f = .rt p μ := id rfl
theorem flexc {c : Nat} {x : PV} {μ : Mem} {f : PSt → Mem → Fl} : (Fl.exc c x μ).fl f = .exc c x μ := id rfl
theorem opt_some {α : Type} {a : α} {μ : Mem} : R.opt (some a) μ = .ok a μ := id rfl
theorem okB_some {b : Bool} {μ : Mem} : okB (some b) μ = .ok (.bl b) μ := id rfl
theorem okI_some {i : Int} {μ : Mem} : okI (some i) μ = .ok (.int i) μ := id rfl
theorem newL_f {xs : List PV} {μ : Mem} : newL false xs μ = .ok (.lst xs) μ := id rfl
theorem ofNat_toNat {n : Nat} : (Int.ofNat n).toNat = n := id rfl
theorem map_some {α β : Type} {f : α → β} {a : α} : (some a).map f = some (f a) := id rfl
theorem eqq_nil {μ : Mem} : eqq (.lst []) (.lst []) μ = some true := id rfl
theorem len_lst {xs : List PV} {μ : Mem} : lenQ (.lst xs) μ = some (Int.ofNat xs.length) := id rfl
theorem len_tup {xs : List PV} {μ : Mem} : lenQ (.tup xs) μ = some (Int.ofNat xs.length) := id rfl
theorem kind_non {μ : Mem} : kindP μ .non = 0 := id rfl
theorem kind_bl {μ : Mem} {b : Bool} : kindP μ (.bl b) = 1 := id rfl
theorem kind_int {μ : Mem} {i : Int} : kindP μ (.int i) = 2 := id rfl
theorem kind_str {μ : Mem} {s : List Nat} : kindP μ (.str s) = 3 := id rfl
theorem kind_tup {μ : Mem} {xs : List PV} : kindP μ (.tup xs) = 4 := id rfl
theorem kind_lst {μ : Mem} {xs : List PV} : kindP μ (.lst xs) = 5 := id rfl
theorem kind_dct {μ : Mem} {xs : List (PV × PV)} : kindP μ (.dct xs) = 6 := id rfl
theorem bin_ii {m : Bool} {op : Operator} {i j k : Int} {μ : Mem} (h : binI op i j = some k) : bin m op (.int i) (.int j) μ = .ok (.int k) μ := by
  simp only [bin, h]
theorem sub_ii {m : Bool} {i j : Int} {μ : Mem} : bin m .Sub (.int i) (.int j) μ = .ok (.int (i - j)) μ := id rfl
theorem add_ii {m : Bool} {i j : Int} {μ : Mem} : bin m .Add (.int i) (.int j) μ = .ok (.int (i + j)) μ := id rfl
theorem int_i {i : Int} : intQ (.int i) = some i := id rfl
theorem isT_one {μ : Mem} {p : PV} {t : Ty} : isT μ p [t] = kindIs (kindP μ p) t := by simp [isT]
theorem isT_two {μ : Mem} {p : PV} {t u : Ty} : isT μ p [t, u] = (kindIs (kindP μ p) t || kindIs (kindP μ p) u) := by simp [isT]
theorem k_int {k : Nat} : kindIs k .int = (k == 1 || k == 2) := id rfl
theorem k_bool {k : Nat} : kindIs k .bool = (k == 1) := id rfl
theorem k_str {k : Nat} : kindIs k .str = (k == 3) := id rfl
theorem k_tup {k : Nat} : kindIs k .tup = (k == 4) := id rfl
theorem k_lst {k : Nat} : kindIs k .lst = (k == 5) := id rfl
theorem k_dct {k : Nat} : kindIs k .dct = (k == 6) := id rfl
theorem isq_non {p : PV} : isq p .non = some (isNon p) := by cases p <;> rfl
theorem isq_bb {a b : Bool} : isq (.bl a) (.bl b) = some (a == b) := id rfl
theorem non_bl {b : Bool} : isNon (.bl b) = false := id rfl
theorem non_int {b : Int} : isNon (.int b) = false := id rfl
theorem non_str {b : List Nat} : isNon (.str b) = false := id rfl
theorem non_tup {b : List PV} : isNon (.tup b) = false := id rfl
theorem non_lst {b : List PV} : isNon (.lst b) = false := id rfl
theorem non_non : isNon .non = true := id rfl
theorem fm_none {α β : Type} {xs : List α} : xs.filterMap (fun _ => (none : Option β)) = [] := by induction xs <;> simp_all
theorem ble_zero {n : Nat} : Nat.ble 0 n = true := by cases n <;> rfl

/-! ### calls -/
theorem run_keep {P : Prog} {d j : Nat} {fd : FD} {args : List PV} {μ : Mem} {σ : PSt} (h : P.fns[j]? = some fd) (hp : (fd.pure && noRefs args) = false) (hn : Nat.beq args.length fd.np = true) (hk : fd.keep = true) (hs : st0 fd.nn args = σ) : run P (d + 1) j args μ = (evSL P.G P.isSub P.att (run P d) fd.body σ μ).fin := by
  simp only [run, h, hp, bodyR, hn, hk, if_true, Bool.false_eq_true, if_false, hs]
theorem run_cut {P : Prog} {d j : Nat} {fd : FD} {args : List PV} {μ : Mem} {σ : PSt} (h : P.fns[j]? = some fd) (hp : (fd.pure && noRefs args) = false) (hn : Nat.beq args.length fd.np = true) (hk : fd.keep = false) (hs : st0 fd.nn args = σ) : run P (d + 1) j args μ = cutR μ.length (evSL P.G P.isSub P.att (run P d) fd.body σ μ).fin := by
  simp only [run, h, hp, bodyR, hn, hk, if_true, Bool.false_eq_true, if_false, hs]
theorem run_pure {P : Prog} {d j : Nat} {fd : FD} {args : List PV} {μ : Mem} {σ : PSt} {p : PV} (h : P.fns[j]? = some fd) (hp : (fd.pure && noRefs args) = true) (hn : Nat.beq args.length fd.np = true) (hk : fd.keep = false) (hs : st0 fd.nn args = σ) (e : evSL P.G P.isSub P.att (run P d) fd.body σ [] = .rt p []) : run P (d + 1) j args μ = .ok p μ := by
  simp only [run, h, hp, bodyR, hn, hk, if_true, Bool.false_eq_true, if_false, hs, e, Fl.fin, cutR, List.length, Nat.beq]
theorem run_pureE {P : Prog} {d j : Nat} {fd : FD} {args : List PV} {μ : Mem} {σ : PSt} {p : PV} {c : Nat} (h : P.fns[j]? = some fd) (hp : (fd.pure && noRefs args) = true) (hn : Nat.beq args.length fd.np = true) (hk : fd.keep = false) (hs : st0 fd.nn args = σ) (e : evSL P.G P.isSub P.att (run P d) fd.body σ [] = .exc c p []) : run P (d + 1) j args μ = .exc c p μ := by
  simp only [run, h, hp, bodyR, hn, hk, if_true, Bool.false_eq_true, if_false, hs, e, Fl.fin, cutR, List.length, Nat.beq]
theorem run_lift {P : Prog} {d j : Nat} {fd : FD} {args : List PV} {μ : Mem} {p : PV} (h : P.fns[j]? = some fd) (hp : (fd.pure && noRefs args) = true) (e : run P (d + 1) j args [] = .ok p []) : run P (d + 1) j args μ = .ok p μ := by
  simp only [run, h, hp, if_true] at e ⊢
  split at e
  · rename_i p' hb
    cases e; rfl
  · cases e
  · cases e
theorem cutS (n : Nat) (p : PV) (μ : Mem) (h : μ.length = n) : cutR n (.ok p μ) = .ok p μ := by
  simp only [cutR, h, Nat.beq_refl, if_true]
theorem cut0 (b : Bool) (μ' : Mem) : cutR 0 (.ok (.bl b) μ') = .ok (.bl b) [] := by
  cases μ' with
  | nil => rfl
  | cons m r => rfl
theorem run_pureL {P : Prog} {d j : Nat} {fd : FD} {args : List PV} {μ μ' : Mem} {σ : PSt} {b : Bool} (h : P.fns[j]? = some fd) (hp : (fd.pure && noRefs args) = true) (hn : Nat.beq args.length fd.np = true) (hk : fd.keep = false) (hs : st0 fd.nn args = σ) (e : evSL P.G P.isSub P.att (run P d) fd.body σ [] = .rt (.bl b) μ') : run P (d + 1) j args μ = .ok (.bl b) μ := by
  simp only [run, h, hp, bodyR, hn, hk, if_true, Bool.false_eq_true, if_false, hs, e, Fl.fin, List.length, cut0]

/-! ### loops -/
theorem big_sub {n : Nat} (h : n < 16777216) : big = (big - n - 1) + n + 1 := by
  have : big = 16777216 := rfl
  omega
theorem forGo_cons {tg : TG} {body : PSt → Mem → Fl} {f : Nat} {it it' : IT} {y : YV} {σ σ1 σ2 : PSt} {μ μ2 : Mem} (hn : it.next μ = some (some (y, it'))) (hb : bindY tg y σ = some σ1) (he : body σ1 μ = .nx σ2 μ2) : forGo tg body (f + 1) it σ μ = forGo tg body f it' σ2 μ2 := by
  simp only [forGo, hn, hb, he, Fl.fl]
theorem forGo_nil {tg : TG} {body : PSt → Mem → Fl} {f : Nat} {it : IT} {σ : PSt} {μ : Mem} (hn : it.next μ = some none) : forGo tg body (f + 1) it σ μ = .nx σ μ := by
  simp only [forGo, hn]
theorem forGo_ret {tg : TG} {body : PSt → Mem → Fl} {f : Nat} {it it' : IT} {y : YV} {σ σ1 : PSt} {μ μ2 : Mem} {p : PV} (hn : it.next μ = some (some (y, it'))) (hb : bindY tg y σ = some σ1) (he : body σ1 μ = .rt p μ2) : forGo tg body (f + 1) it σ μ = .rt p μ2 := by
  simp only [forGo, hn, hb, he, Fl.fl]
/-- a loop over items, by an invariant -/
theorem for_its {tg : TG} {body : PSt → Mem → Fl} (I : Nat → PSt → Mem → Prop) (xs : List PV)
    (turn : ∀ (i : Nat) (x : PV) (σ : PSt) (μ : Mem), xs[i]? = some x → I i σ μ → ∃ σ1 σ2 μ2, bindT tg x σ = some σ1 ∧ body σ1 μ = .nx σ2 μ2 ∧ I (i + 1) σ2 μ2) :
    ∀ (n i : Nat), i + n = xs.length → ∀ (f : Nat) (σ : PSt) (μ : Mem), I i σ μ → ∃ σ' μ', I xs.length σ' μ' ∧ forGo tg body (f + n + 1) (.its (xs.drop i)) σ μ = .nx σ' μ' := by
  intro n
  induction n with
  | zero =>
    intro i hi f σ μ h
    have : i = xs.length := by omega
    subst this
    exact ⟨σ, μ, h, by rw [List.drop_length]; exact forGo_nil rfl⟩
  | succ n ih =>
    intro i hi f σ μ h
    have hlt : i < xs.length := by omega
    obtain ⟨σ1, σ2, μ2, h1, h2, h3⟩ := turn i xs[i] σ μ (List.getElem?_eq_getElem hlt) h
    obtain ⟨σ', μ', h4, h5⟩ := ih (i + 1) (by omega) f σ2 μ2 h3
    refine ⟨σ', μ', h4, ?_⟩
    rw [List.drop_eq_getElem_cons hlt, show f + (n + 1) + 1 = (f + n + 1) + 1 from by omega]
    exact (forGo_cons (y := .one xs[i]) (it' := .its (xs.drop (i + 1))) rfl h1 h2).trans h5
theorem for_items {tg : TG} {body : PSt → Mem → Fl} (I : Nat → PSt → Mem → Prop) (xs : List PV) (hl : xs.length < 16777216)
    (turn : ∀ (i : Nat) (x : PV) (σ : PSt) (μ : Mem), xs[i]? = some x → I i σ μ → ∃ σ1 σ2 μ2, bindT tg x σ = some σ1 ∧ body σ1 μ = .nx σ2 μ2 ∧ I (i + 1) σ2 μ2) {σ : PSt} {μ : Mem} (h : I 0 σ μ) :
    ∃ σ' μ', I xs.length σ' μ' ∧ forGo tg body big (.its xs) σ μ = .nx σ' μ' := by
  obtain ⟨σ', μ', h1, h2⟩ := for_its I xs turn xs.length 0 (by omega) (big - xs.length - 1) σ μ h
  rw [← big_sub hl, List.drop_zero] at h2
  exact ⟨σ', μ', h1, h2⟩
theorem for_rg {tg : TG} {body : PSt → Mem → Fl} (I : Nat → PSt → Mem → Prop) (lo : Int) (N : Nat)
    (turn : ∀ (i : Nat) (σ : PSt) (μ : Mem), i < N → I i σ μ → ∃ σ1 σ2 μ2, bindT tg (.int (lo + i)) σ = some σ1 ∧ body σ1 μ = .nx σ2 μ2 ∧ I (i + 1) σ2 μ2) :
    ∀ (n i : Nat), i + n = N → ∀ (f : Nat) (σ : PSt) (μ : Mem), I i σ μ → ∃ σ' μ', I N σ' μ' ∧ forGo tg body (f + n + 1) (.rng (lo + i) n) σ μ = .nx σ' μ' := by
  intro n
  induction n with
  | zero =>
    intro i hi f σ μ h
    have : i = N := by omega
    subst this
    exact ⟨σ, μ, h, forGo_nil rfl⟩
  | succ n ih =>
    intro i hi f σ μ h
    obtain ⟨σ1, σ2, μ2, h1, h2, h3⟩ := turn i σ μ (by omega) h
    obtain ⟨σ', μ', h4, h5⟩ := ih (i + 1) (by omega) f σ2 μ2 h3
    refine ⟨σ', μ', h4, ?_⟩
    rw [show f + (n + 1) + 1 = (f + n + 1) + 1 from by omega]
    rw [show lo + ((i + 1 : Nat) : Int) = lo + i + 1 from by omega] at h5
    exact (forGo_cons (y := .one (.int (lo + i))) (it' := .rng (lo + i + 1) n) rfl h1 h2).trans h5
theorem for_range {tg : TG} {body : PSt → Mem → Fl} (I : Nat → PSt → Mem → Prop) (lo : Int) (N : Nat) (hl : N < 16777216)
    (turn : ∀ (i : Nat) (σ : PSt) (μ : Mem), i < N → I i σ μ → ∃ σ1 σ2 μ2, bindT tg (.int (lo + i)) σ = some σ1 ∧ body σ1 μ = .nx σ2 μ2 ∧ I (i + 1) σ2 μ2) {σ : PSt} {μ : Mem} (h : I 0 σ μ) :
    ∃ σ' μ', I N σ' μ' ∧ forGo tg body big (.rng lo N) σ μ = .nx σ' μ' := by
  obtain ⟨σ', μ', h1, h2⟩ := for_rg I lo N turn N 0 (by omega) (big - N - 1) σ μ h
  rw [← big_sub hl, show lo + ((0 : Nat) : Int) = lo from by omega] at h2
  exact ⟨σ', μ', h1, h2⟩

/-! ### comprehensions -/
/-- what is yielded, in sequence -/
def rngY (lo : Int) : Nat → List YV
  | 0 => []
  | n + 1 => .one (.int lo) :: rngY (lo + 1) n
def enuY (i : Nat) : List PV → List YV
  | [] => []
  | x :: r => .two (.int (Int.ofNat i)) x :: enuY (i + 1) r
def zipY : List PV → List PV → List YV
  | x :: r, y :: s => .two x y :: zipY r s
  | _, _ => []
def IT.ys : IT → List YV
  | .its xs => xs.map .one
  | .rng lo n => rngY lo n
  | .enu i xs => enuY i xs
  | .zip xs ys => zipY xs ys
  | .live _ _ => []
def IT.still : IT → Bool
  | .live _ _ => false
  | _ => true
theorem IT.next_ys : ∀ (it : IT) (μ : Mem), it.still = true → (it.ys = [] ∧ it.next μ = some none) ∨ ∃ y it', it.ys = y :: it'.ys ∧ it'.still = true ∧ it.next μ = some (some (y, it'))
  | .its [], μ, _ => .inl ⟨rfl, rfl⟩
  | .its (x :: r), μ, _ => .inr ⟨.one x, .its r, rfl, rfl, rfl⟩
  | .rng lo 0, μ, _ => .inl ⟨rfl, rfl⟩
  | .rng lo (n + 1), μ, _ => .inr ⟨_, .rng (lo + 1) n, rfl, rfl, rfl⟩
  | .enu _ [], μ, _ => .inl ⟨rfl, rfl⟩
  | .enu i (x :: r), μ, _ => .inr ⟨_, .enu (i + 1) r, rfl, rfl, rfl⟩
  | .zip [] _, μ, _ => .inl ⟨by simp [IT.ys, zipY], by simp [IT.next]⟩
  | .zip (_ :: _) [], μ, _ => .inl ⟨by simp [IT.ys, zipY], by simp [IT.next]⟩
  | .zip (x :: r) (y :: s), μ, _ => .inr ⟨_, .zip r s, rfl, rfl, rfl⟩
  | .live _ _, _, h => by cases h
/-- a pure body -/
theorem lcGo_pure {body : YV → Mem → R (Option PV)} {g : YV → Option PV} {μ : Mem} : ∀ (n : Nat) (it : IT) (acc : List PV), it.still = true → it.ys.length = n → (∀ y ∈ it.ys, body y μ = .ok (g y) μ) → ∀ f, lcGo body (f + n + 1) it acc μ = .ok (acc.reverse ++ it.ys.filterMap g) μ := by
  intro n
  induction n with
  | zero =>
    intro it acc hs hl h f
    rcases it.next_ys μ hs with ⟨e, en⟩ | ⟨y, it', e, _, en⟩
    · simp only [lcGo, en, e, List.filterMap_nil, List.append_nil]
    · rw [e] at hl; simp at hl
  | succ n ih =>
    intro it acc hs hl h f
    rcases it.next_ys μ hs with ⟨e, en⟩ | ⟨y, it', e, hs', en⟩
    · rw [e] at hl; simp at hl
    · rw [e] at hl h ⊢
      have hb := h y List.mem_cons_self
      have hr := fun z hz => h z (List.mem_cons_of_mem _ hz)
      have hl' : it'.ys.length = n := by simpa using hl
      rw [show f + (n + 1) + 1 = (f + n + 1) + 1 from by omega, lcGo, en]
      simp only [hb]
      cases hg : g y with
      | none => rw [List.filterMap_cons_none hg]; exact ih it' acc hs' hl' hr f
      | some q =>
        rw [List.filterMap_cons_some hg]
        simp only
        rw [ih it' (q :: acc) hs' hl' hr f]
        simp
theorem lc_pure {body : YV → Mem → R (Option PV)} (g : YV → Option PV) {μ : Mem} {it : IT} (hs : it.still = true) (hl : it.ys.length < 16777216) (h : ∀ y ∈ it.ys, body y μ = .ok (g y) μ) : lcGo body big it [] μ = .ok (it.ys.filterMap g) μ := by
  have := lcGo_pure (body := body) (g := g) (μ := μ) it.ys.length it [] hs rfl h (big - it.ys.length - 1)
  rw [← big_sub hl] at this
  simpa using this
theorem rngY_spec : ∀ (n : Nat) (lo : Int), (rngY lo n).length = n ∧ ∀ (g : YV → Option PV), (rngY lo n).filterMap g = (List.range n).filterMap fun (i : Nat) => g (.one (.int (lo + (i : Int))))
  | 0, lo => ⟨rfl, fun g => rfl⟩
  | n + 1, lo => by
    obtain ⟨a, b⟩ := rngY_spec n (lo + 1)
    refine ⟨by simp [rngY, a], fun g => ?_⟩
    rw [List.range_succ_eq_map, List.filterMap_cons, rngY, List.filterMap_cons, b g, List.filterMap_map]
    have e : (fun i : Nat => g (.one (.int (lo + 1 + (i : Int))))) = (fun i : Nat => g (.one (.int (lo + (i : Int))))) ∘ Nat.succ := by
      funext i
      simp only [Function.comp, Nat.succ_eq_add_one]
      rw [show lo + ((i + 1 : Nat) : Int) = lo + 1 + i from by omega]
    rw [e, show lo + ((0 : Nat) : Int) = lo from by omega]
theorem rngY_mem : ∀ (n : Nat) (lo : Int) (y : YV), y ∈ rngY lo n → ∃ i : Nat, i < n ∧ y = .one (.int (lo + i))
  | 0, lo, y, h => by cases h
  | n + 1, lo, y, h => by
    rcases List.mem_cons.mp h with e | h
    · exact ⟨0, by omega, by rw [e, show lo + ((0 : Nat) : Int) = lo from by omega]⟩
    · obtain ⟨i, hi, e⟩ := rngY_mem n (lo + 1) y h
      exact ⟨i + 1, by omega, by rw [e, show lo + ((i + 1 : Nat) : Int) = lo + 1 + i from by omega]⟩
def yRng (lo : Int) (g : Nat → Option PV) (y : YV) : Option PV := match y with
  | .one (.int j) => g (j - lo).toNat
  | _ => none
theorem yRng_at (lo : Int) (g : Nat → Option PV) (i : Nat) : yRng lo g (.one (.int (lo + (i : Int)))) = g i := by
  have e : (lo + (i : Int) - lo).toNat = i := by omega
  simp only [yRng, e]
theorem lc_rng {body : YV → Mem → R (Option PV)} (g : Nat → Option PV) {lo : Int} {μ : Mem} {N : Nat} (hN : N < 16777216) (h : ∀ i : Nat, i < N → body (.one (.int (lo + i))) μ = .ok (g i) μ) : lcGo body big (.rng lo N) [] μ = .ok ((List.range N).filterMap g) μ := by
  have hl : (IT.rng lo N).ys.length < 16777216 := by
    show (rngY lo N).length < _
    rw [(rngY_spec N lo).1]; exact hN
  have z := lc_pure (body := body) (μ := μ) (it := .rng lo N) (yRng lo g) rfl hl (fun y hy => by
      obtain ⟨i, hi, rfl⟩ := rngY_mem N lo y hy
      rw [yRng_at]
      exact h i hi)
  have z2 : (IT.rng lo N).ys.filterMap (yRng lo g) = (List.range N).filterMap g := by
    show (rngY lo N).filterMap (yRng lo g) = _
    rw [(rngY_spec N lo).2 (yRng lo g)]
    congr 1
    funext i
    exact yRng_at lo g i
  rw [z, z2]
theorem lc_rng0 {body : YV → Mem → R (Option PV)} (g : Nat → Option PV) {μ : Mem} {N : Nat} (hN : N < 16777216) (h : ∀ i : Nat, i < N → body (.one (.int (Int.ofNat i))) μ = .ok (g i) μ) : lcGo body big (.rng 0 N) [] μ = .ok ((List.range N).filterMap g) μ := lc_rng g hN fun i hi => by rw [show (0 : Int) + (i : Int) = Int.ofNat i from by simp]; exact h i hi
theorem lc_its {body : YV → Mem → R (Option PV)} (g : PV → Option PV) {μ : Mem} {xs : List PV} (hN : xs.length < 16777216) (h : ∀ x ∈ xs, body (.one x) μ = .ok (g x) μ) : lcGo body big (.its xs) [] μ = .ok (xs.filterMap g) μ := by
  have z := lc_pure (body := body) (μ := μ) (it := .its xs) (fun y => match y with
    | .one x => g x
    | _ => none) rfl (by show (xs.map YV.one).length < _; rw [List.length_map]; exact hN) (fun y hy => by
      obtain ⟨x, hx, rfl⟩ := List.mem_map.mp hy
      exact h x hx)
  rw [z]
  simp only [IT.ys, List.filterMap_map]
  rfl
/-- a body that changes the store, by an invariant -/
theorem lcGo_inv {body : YV → Mem → R (Option PV)} (I : List YV → List PV → Mem → Prop) : ∀ (n : Nat) (it : IT) (acc : List PV) (μ : Mem), it.still = true → it.ys.length = n → I it.ys acc.reverse μ →
    (∀ y r acc μ, (∃ pre, it.ys = pre ++ y :: r) → I (y :: r) acc μ → ∃ o μ', body y μ = .ok o μ' ∧ I r (acc ++ o.toList) μ') → ∀ f, ∃ xs μ', I [] xs μ' ∧ lcGo body (f + n + 1) it acc μ = .ok xs μ' := by
  intro n
  induction n with
  | zero =>
    intro it acc μ hs hl h turn f
    rcases it.next_ys μ hs with ⟨e, en⟩ | ⟨y, it', e, _, en⟩
    · rw [e] at h
      exact ⟨_, _, h, by simp only [lcGo, en]⟩
    · rw [e] at hl; simp at hl
  | succ n ih =>
    intro it acc μ hs hl h turn f
    rcases it.next_ys μ hs with ⟨e, en⟩ | ⟨y, it', e, hs', en⟩
    · rw [e] at hl; simp at hl
    · rw [e] at hl h turn
      have hl' : it'.ys.length = n := by simpa using hl
      obtain ⟨o, μ1, hb, h1⟩ := turn y it'.ys acc.reverse μ ⟨[], rfl⟩ h
      have turn' : ∀ y' r acc μ, (∃ pre, it'.ys = pre ++ y' :: r) → I (y' :: r) acc μ → ∃ o μ', body y' μ = .ok o μ' ∧ I r (acc ++ o.toList) μ' := fun y' r acc μ ⟨pre, hp⟩ => turn y' r acc μ ⟨y :: pre, by rw [hp]; rfl⟩
      cases o with
      | none =>
        obtain ⟨xs, μ', h2, h3⟩ := ih it' acc μ1 hs' hl' (by simpa using h1) turn' f
        refine ⟨xs, μ', h2, ?_⟩
        rw [show f + (n + 1) + 1 = (f + n + 1) + 1 from by omega, lcGo, en]
        simp only [hb, h3]
      | some q =>
        obtain ⟨xs, μ', h2, h3⟩ := ih it' (q :: acc) μ1 hs' hl' (by simpa using h1) turn' f
        refine ⟨xs, μ', h2, ?_⟩
        rw [show f + (n + 1) + 1 = (f + n + 1) + 1 from by omega, lcGo, en]
        simp only [hb, h3]
theorem lc_inv {body : YV → Mem → R (Option PV)} (I : List YV → List PV → Mem → Prop) {it : IT} {μ : Mem} (hs : it.still = true) (hl : it.ys.length < 16777216) (h : I it.ys [] μ)
    (turn : ∀ y r acc μ, (∃ pre, it.ys = pre ++ y :: r) → I (y :: r) acc μ → ∃ o μ', body y μ = .ok o μ' ∧ I r (acc ++ o.toList) μ') : ∃ xs μ', I [] xs μ' ∧ lcGo body big it [] μ = .ok xs μ' := by
  obtain ⟨xs, μ', h1, h2⟩ := lcGo_inv I it.ys.length it [] μ hs rfl h turn (big - it.ys.length - 1)
  rw [← big_sub hl] at h2
  exact ⟨xs, μ', h1, h2⟩

/-! ### small things -/
theorem asInts_im : ∀ xs : List Int, asInts (xs.map PV.int) = some xs
  | [] => rfl
  | x :: xs => by simp only [List.map, asInts, asInts_im xs]; rfl
theorem asBls_im : ∀ xs : List Bool, asBls (xs.map PV.bl) = some xs
  | [] => rfl
  | x :: xs => by simp only [List.map, asBls, asBls_im xs]; rfl
theorem atI_nat {α : Type} {xs : List α} {k : Nat} (h : k < xs.length) : L2.atI xs (Int.ofNat k) = some xs[k] := by
  have e : L2.ixN xs.length (Int.ofNat k) = some k := by
    unfold L2.ixN
    rw [if_pos (show (0 : Int) ≤ Int.ofNat k from Int.natCast_nonneg k), if_pos (show Int.ofNat k < (xs.length : Int) from by simpa using h)]; rfl
  rw [L2.atI, e]
  simpa using h
theorem eqq_int (x y : Int) (μ : Mem) : eqq (.int x) (.int y) μ = some (x == y) := by
  simp only [eqq, fz, cl, dep, eqv, Bool.and_self, Nat.ble, if_true]
  rfl
theorem eqq_bl (x y : Bool) (μ : Mem) : eqq (.bl x) (.bl y) μ = some (x == y) := by
  simp only [eqq, fz, cl, dep, eqv, Bool.and_self, Nat.ble, if_true]
  rfl
theorem eqq_str (x y : List Nat) (μ : Mem) : eqq (.str x) (.str y) μ = some (x == y) := by
  simp only [eqq, fz, cl, dep, eqv, Bool.and_self, Nat.ble, if_true]
  rfl
end HP
set_option Elab.async false
set_option linter.all false
set_option maxRecDepth 10000
set_option maxHeartbeats 400000
namespace HP
open PySem PySem.Spec PyProof.Rows L2
/-! ### equality by computation -/
mutual
def pveq : PV → PV → Bool
  | .non, .non => true
  | .bl a, .bl b => a == b
  | .int a, .int b => decide (a = b)
  | .str a, .str b => decide (a = b)
  | .tup xs, .tup ys => pveqs xs ys
  | .lst xs, .lst ys => pveqs xs ys
  | .ref m, .ref n => Nat.beq m n
  | _, _ => false
def pveqs : List PV → List PV → Bool
  | [], [] => true
  | x :: xs, y :: ys => pveq x y && pveqs xs ys
  | _, _ => false
end
mutual
theorem pveq_eq : ∀ a b : PV, pveq a b = true → a = b
  | .non, b, h => by
    cases b with
    | non => rfl
    | _ => cases h
  | .bl a, b, h => by
    cases b with
    | bl c => rw [show a = c from by simpa [pveq] using h]
    | _ => cases h
  | .int a, b, h => by
    cases b with
    | int c => rw [show a = c from by simpa [pveq] using h]
    | _ => cases h
  | .str a, b, h => by
    cases b with
    | str c => rw [show a = c from by simpa [pveq] using h]
    | _ => cases h
  | .ref a, b, h => by
    cases b with
    | ref c => rw [show a = c from Nat.eq_of_beq_eq_true h]
    | _ => cases h
  | .tup xs, b, h => by
    cases b with
    | tup ys => rw [pveqs_eq xs ys (by simpa [pveq] using h)]
    | _ => cases h
  | .lst xs, b, h => by
    cases b with
    | lst ys => rw [pveqs_eq xs ys (by simpa [pveq] using h)]
    | _ => cases h
  | .dct _, b, h => by cases b <;> cases h
  | .scr _, b, h => by cases b <;> cases h
theorem pveqs_eq : ∀ a b : List PV, pveqs a b = true → a = b
  | [], [], _ => rfl
  | x :: xs, y :: ys, h => by
    simp only [pveqs, Bool.and_eq_true] at h
    rw [pveq_eq x y h.1, pveqs_eq xs ys h.2]
  | [], _ :: _, h => by cases h
  | _ :: _, [], h => by cases h
end
def isOk (r : R PV) (p : PV) : Bool := match r with
  | .ok q [] => pveq q p
  | _ => false
theorem isOk_of {r : R PV} {p : PV} (h : isOk r p = true) : r = .ok p [] := by
  unfold isOk at h
  split at h
  · rw [pveq_eq _ _ h]
  · cases h
end HP
set_option Elab.async false
set_option linter.all false
set_option maxRecDepth 10000
set_option maxHeartbeats 400000
namespace HP
open PySem PySem.Spec PyProof.Rows L2

/-! ### the evaluator, step by step: no step looks ahead -/
section
variable {G : List PV} {F : Nat → List PV → Mem → R PV} {sub : Nat → Nat → Option Bool} {atts : Nat → List Nat}
def kVar (o : Option (Option PV)) (μ : Mem) : R PV :=
  match o with
  | some (some p) => .ok p μ
  | _ => .bad
theorem r_var : ∀ {i : Nat} {σ : PSt} {μ : Mem}, evE G F (.var i) σ μ = kVar σ[i]? μ := by intros; simp only [evE, evEL, evAnd, evOr, evAll, evPt, evI, evS, evSL] <;> rfl
theorem k_var : ∀ {p : PV} {μ : Mem}, kVar (some (some p)) μ = .ok p μ := fun {_ _} => rfl
theorem r_gl : ∀ {i : Nat} {σ : PSt} {μ : Mem}, evE G F (.gl i) σ μ = R.opt G[i]? μ := by intros; simp only [evE, evEL, evAnd, evOr, evAll, evPt, evI, evS, evSL] <;> rfl
theorem r_non : ∀ {σ : PSt} {μ : Mem}, evE G F .non σ μ = .ok .non μ := by intros; simp only [evE, evEL, evAnd, evOr, evAll, evPt, evI, evS, evSL] <;> rfl
theorem r_bl : ∀ {b : Bool} {σ : PSt} {μ : Mem}, evE G F (.bl b) σ μ = .ok (.bl b) μ := by intros; simp only [evE, evEL, evAnd, evOr, evAll, evPt, evI, evS, evSL] <;> rfl
theorem r_int : ∀ {b : Int} {σ : PSt} {μ : Mem}, evE G F (.int b) σ μ = .ok (.int b) μ := by intros; simp only [evE, evEL, evAnd, evOr, evAll, evPt, evI, evS, evSL] <;> rfl
theorem r_str : ∀ {b : List Nat} {σ : PSt} {μ : Mem}, evE G F (.str b) σ μ = .ok (.str b) μ := by intros; simp only [evE, evEL, evAnd, evOr, evAll, evPt, evI, evS, evSL] <;> rfl
def kBin2 (m : Bool) (op : Operator) (l : PV) (r : R PV) : R PV :=
  r.bind fun p μ => bin m op l p μ
theorem o_Bin2 : ∀ {m : Bool} {op : Operator} {l : PV} {p : PV} {μ : Mem}, kBin2 m op l (.ok p μ) = bin m op l p μ := by intros; rfl
theorem x_Bin2 : ∀ {m : Bool} {op : Operator} {l : PV} {c : Nat} {x : PV} {μ : Mem}, kBin2 m op l (.exc c x μ) = .exc c x μ := by intros; rfl
def kBin (G : List PV) (F : Nat → List PV → Mem → R PV) (m : Bool) (op : Operator) (e : E) (σ : PSt) (r : R PV) : R PV :=
  r.bind fun p μ => kBin2 m op p (evE G F e σ μ)
theorem o_Bin : ∀ {m : Bool} {op : Operator} {e : E} {σ : PSt} {p : PV} {μ : Mem}, kBin G F m op e σ (.ok p μ) = kBin2 m op p (evE G F e σ μ) := by intros; rfl
theorem x_Bin : ∀ {m : Bool} {op : Operator} {e : E} {σ : PSt} {c : Nat} {x : PV} {μ : Mem}, kBin G F m op e σ (.exc c x μ) = .exc c x μ := by intros; rfl
theorem r_bin : ∀ {m : Bool} {op : Operator} {a e : E} {σ : PSt} {μ : Mem}, evE G F (.bin m op a e) σ μ = kBin G F m op e σ (evE G F a σ μ) := by intros; simp only [evE, evEL, evAnd, evOr, evAll, evPt, evI, evS, evSL] <;> rfl
def kCmp2 (op : CmpOp) (l : PV) (r : R PV) : R PV :=
  r.bind fun p μ => okB (cmpq op l p μ) μ
theorem o_Cmp2 : ∀ {op : CmpOp} {l : PV} {p : PV} {μ : Mem}, kCmp2 op l (.ok p μ) = okB (cmpq op l p μ) μ := by intros; rfl
theorem x_Cmp2 : ∀ {op : CmpOp} {l : PV} {c : Nat} {x : PV} {μ : Mem}, kCmp2 op l (.exc c x μ) = .exc c x μ := by intros; rfl
def kCmp (G : List PV) (F : Nat → List PV → Mem → R PV) (op : CmpOp) (e : E) (σ : PSt) (r : R PV) : R PV :=
  r.bind fun p μ => kCmp2 op p (evE G F e σ μ)
theorem o_Cmp : ∀ {op : CmpOp} {e : E} {σ : PSt} {p : PV} {μ : Mem}, kCmp G F op e σ (.ok p μ) = kCmp2 op p (evE G F e σ μ) := by intros; rfl
theorem x_Cmp : ∀ {op : CmpOp} {e : E} {σ : PSt} {c : Nat} {x : PV} {μ : Mem}, kCmp G F op e σ (.exc c x μ) = .exc c x μ := by intros; rfl
theorem r_cmp : ∀ {op : CmpOp} {a e : E} {σ : PSt} {μ : Mem}, evE G F (.cmp op a e) σ μ = kCmp G F op e σ (evE G F a σ μ) := by intros; simp only [evE, evEL, evAnd, evOr, evAll, evPt, evI, evS, evSL] <;> rfl
def kChn4 (op : CmpOp) (l : PV) (r : R PV) : R PV :=
  r.bind fun p μ => okB (cmpq op l p μ) μ
theorem o_Chn4 : ∀ {op : CmpOp} {l : PV} {p : PV} {μ : Mem}, kChn4 op l (.ok p μ) = okB (cmpq op l p μ) μ := by intros; rfl
theorem x_Chn4 : ∀ {op : CmpOp} {l : PV} {c : Nat} {x : PV} {μ : Mem}, kChn4 op l (.exc c x μ) = .exc c x μ := by intros; rfl
def kChn3 (G : List PV) (F : Nat → List PV → Mem → R PV) (op : CmpOp) (l : PV) (e : E) (σ : PSt) (r : R PV) : R PV :=
  r.bind fun p μ => match p with
  | .bl b => cond b (kChn4 op l (evE G F e σ μ)) (.ok (.bl false) μ)
  | _ => .bad
theorem o_Chn3 : ∀ {op : CmpOp} {l : PV} {e : E} {σ : PSt} {b : Bool} {μ : Mem}, kChn3 G F op l e σ (.ok (.bl b) μ) = cond b (kChn4 op l (evE G F e σ μ)) (.ok (.bl false) μ) := by intros; rfl
def kChn2 (G : List PV) (F : Nat → List PV → Mem → R PV) (op op2 : CmpOp) (l : PV) (e : E) (σ : PSt) (r : R PV) : R PV :=
  r.bind fun p μ => kChn3 G F op2 p e σ (okB (cmpq op l p μ) μ)
theorem o_Chn2 : ∀ {op op2 : CmpOp} {l p : PV} {e : E} {σ : PSt} {μ : Mem}, kChn2 G F op op2 l e σ (.ok p μ) = kChn3 G F op2 p e σ (okB (cmpq op l p μ) μ) := by intros; rfl
def kChn (G : List PV) (F : Nat → List PV → Mem → R PV) (op op2 : CmpOp) (e1 e2 : E) (σ : PSt) (r : R PV) : R PV :=
  r.bind fun p μ => kChn2 G F op op2 p e2 σ (evE G F e1 σ μ)
theorem o_Chn : ∀ {op op2 : CmpOp} {e1 e2 : E} {σ : PSt} {p : PV} {μ : Mem}, kChn G F op op2 e1 e2 σ (.ok p μ) = kChn2 G F op op2 p e2 σ (evE G F e1 σ μ) := by intros; rfl
theorem x_Chn : ∀ {op op2 : CmpOp} {e1 e2 : E} {σ : PSt} {c : Nat} {x : PV} {μ : Mem}, kChn G F op op2 e1 e2 σ (.exc c x μ) = .exc c x μ := by intros; rfl
theorem r_chn : ∀ {op op2 : CmpOp} {a e1 e2 : E} {σ : PSt} {μ : Mem}, evE G F (.chn op op2 a e1 e2) σ μ = kChn G F op op2 e1 e2 σ (evE G F a σ μ) := by
  intros
  simp only [evE, kChn, kChn2, kChn3, kChn4]
  congr 1
  funext p μ
  congr 1
  funext q μ
  congr 1
  funext r μ
  cases r with
  | bl b => cases b <;> rfl
  | _ => rfl
theorem r_conj : ∀ {es : EL} {σ : PSt} {μ : Mem}, evE G F (.conj es) σ μ = evAnd G F es σ μ := by intros; simp only [evE, evEL, evAnd, evOr, evAll, evPt, evI, evS, evSL] <;> rfl
theorem r_disj : ∀ {es : EL} {σ : PSt} {μ : Mem}, evE G F (.disj es) σ μ = evOr G F es σ μ := by intros; simp only [evE, evEL, evAnd, evOr, evAll, evPt, evI, evS, evSL] <;> rfl
def kAnd (G : List PV) (F : Nat → List PV → Mem → R PV) (es : EL) (σ : PSt) (r : R PV) : R PV :=
  r.bind fun p μ => match p with
  | .bl b => cond b (evAnd G F es σ μ) (.ok (.bl false) μ)
  | _ => .bad
theorem o_And : ∀ {es : EL} {σ : PSt} {b : Bool} {μ : Mem}, kAnd G F es σ (.ok (.bl b) μ) = cond b (evAnd G F es σ μ) (.ok (.bl false) μ) := by intros; rfl
def kOr (G : List PV) (F : Nat → List PV → Mem → R PV) (es : EL) (σ : PSt) (r : R PV) : R PV :=
  r.bind fun p μ => match p with
  | .bl b => cond b (.ok (.bl true) μ) (evOr G F es σ μ)
  | _ => .bad
theorem o_Or : ∀ {es : EL} {σ : PSt} {b : Bool} {μ : Mem}, kOr G F es σ (.ok (.bl b) μ) = cond b (.ok (.bl true) μ) (evOr G F es σ μ) := by intros; rfl
theorem r_And1 : ∀ {e : E} {σ : PSt} {μ : Mem}, evAnd G F (.cons e .nil) σ μ = evE G F e σ μ := by intros; simp only [evE, evEL, evAnd, evOr, evAll, evPt, evI, evS, evSL] <;> rfl
theorem r_And2 : ∀ {e a : E} {es : EL} {σ : PSt} {μ : Mem}, evAnd G F (.cons e (.cons a es)) σ μ = kAnd G F (.cons a es) σ (evE G F e σ μ) := by
  intros
  simp only [evAnd, kAnd]
  congr 1
  funext p μ
  cases p with
  | bl b => cases b <;> rfl
  | _ => rfl
theorem r_And3 : ∀ {e a : E} {es : EL} {σ : PSt} {μ : Mem}, evAnd G F (.cons e (.star a es)) σ μ = kAnd G F (.star a es) σ (evE G F e σ μ) := by
  intros
  simp only [evAnd, kAnd]
  congr 1
  funext p μ
  cases p with
  | bl b => cases b <;> rfl
  | _ => rfl
theorem r_Or1 : ∀ {e : E} {σ : PSt} {μ : Mem}, evOr G F (.cons e .nil) σ μ = evE G F e σ μ := by intros; simp only [evE, evEL, evAnd, evOr, evAll, evPt, evI, evS, evSL] <;> rfl
theorem r_Or2 : ∀ {e a : E} {es : EL} {σ : PSt} {μ : Mem}, evOr G F (.cons e (.cons a es)) σ μ = kOr G F (.cons a es) σ (evE G F e σ μ) := by
  intros
  simp only [evOr, kOr]
  congr 1
  funext p μ
  cases p with
  | bl b => cases b <;> rfl
  | _ => rfl
theorem r_Or3 : ∀ {e a : E} {es : EL} {σ : PSt} {μ : Mem}, evOr G F (.cons e (.star a es)) σ μ = kOr G F (.star a es) σ (evE G F e σ μ) := by
  intros
  simp only [evOr, kOr]
  congr 1
  funext p μ
  cases p with
  | bl b => cases b <;> rfl
  | _ => rfl
def kNot (r : R PV) : R PV :=
  r.bind fun p μ => match p with
  | .bl b => .ok (.bl (!b)) μ
  | _ => .bad
theorem o_Not : ∀ {b : Bool} {μ : Mem}, kNot (.ok (.bl b) μ) = .ok (.bl (!b)) μ := by intros; rfl
theorem r_not : ∀ {e : E} {σ : PSt} {μ : Mem}, evE G F (.not e) σ μ = kNot (evE G F e σ μ) := by intros; simp only [evE, evEL, evAnd, evOr, evAll, evPt, evI, evS, evSL] <;> rfl
def kNeg (r : R PV) : R PV :=
  r.bind fun p μ => match p with
  | .int b => .ok (.int (-b)) μ
  | _ => .bad
theorem o_Neg : ∀ {b : Int} {μ : Mem}, kNeg (.ok (.int b) μ) = .ok (.int (-b)) μ := by intros; rfl
theorem r_neg : ∀ {e : E} {σ : PSt} {μ : Mem}, evE G F (.neg e) σ μ = kNeg (evE G F e σ μ) := by intros; simp only [evE, evEL, evAnd, evOr, evAll, evPt, evI, evS, evSL] <;> rfl
def kIfe (G : List PV) (F : Nat → List PV → Mem → R PV) (e1 e2 : E) (σ : PSt) (r : R PV) : R PV :=
  r.bind fun p μ => match p with
  | .bl b => cond b (evE G F e1 σ μ) (evE G F e2 σ μ)
  | _ => .bad
theorem o_Ife : ∀ {e1 e2 : E} {σ : PSt} {b : Bool} {μ : Mem}, kIfe G F e1 e2 σ (.ok (.bl b) μ) = cond b (evE G F e1 σ μ) (evE G F e2 σ μ) := by intros; rfl
theorem r_ife : ∀ {e e1 e2 : E} {σ : PSt} {μ : Mem}, evE G F (.ife e e1 e2) σ μ = kIfe G F e1 e2 σ (evE G F e σ μ) := by
  intros
  simp only [evE, kIfe]
  congr 1
  funext p μ
  cases p with
  | bl b => cases b <;> rfl
  | _ => rfl
def kIdx2 (l : PV) (r : R PV) : R PV :=
  r.bind fun p μ => R.opt (idxq l p μ) μ
theorem o_Idx2 : ∀ {l : PV} {p : PV} {μ : Mem}, kIdx2 l (.ok p μ) = R.opt (idxq l p μ) μ := by intros; rfl
theorem x_Idx2 : ∀ {l : PV} {c : Nat} {x : PV} {μ : Mem}, kIdx2 l (.exc c x μ) = .exc c x μ := by intros; rfl
def kIdx (G : List PV) (F : Nat → List PV → Mem → R PV) (e : E) (σ : PSt) (r : R PV) : R PV :=
  r.bind fun p μ => kIdx2 p (evE G F e σ μ)
theorem o_Idx : ∀ {e : E} {σ : PSt} {p : PV} {μ : Mem}, kIdx G F e σ (.ok p μ) = kIdx2 p (evE G F e σ μ) := by intros; rfl
theorem x_Idx : ∀ {e : E} {σ : PSt} {c : Nat} {x : PV} {μ : Mem}, kIdx G F e σ (.exc c x μ) = .exc c x μ := by intros; rfl
theorem r_idx : ∀ {a e : E} {σ : PSt} {μ : Mem}, evE G F (.idx a e) σ μ = kIdx G F e σ (evE G F a σ μ) := by intros; simp only [evE, evEL, evAnd, evOr, evAll, evPt, evI, evS, evSL] <;> rfl
def kSlc3 (m : Bool) (l : PV) (lo : Option Int) (r : R (Option Int)) : R PV :=
  r.bind fun hi μ => slcq m l lo hi μ
theorem o_Slc3 : ∀ {m : Bool} {l : PV} {lo hi : Option Int} {μ : Mem}, kSlc3 m l lo (.ok hi μ) = slcq m l lo hi μ := by intros; rfl
def kSlc2 (G : List PV) (F : Nat → List PV → Mem → R PV) (m : Bool) (l : PV) (h : EL) (σ : PSt) (r : R (Option Int)) : R PV :=
  r.bind fun lo μ => kSlc3 m l lo (evPt G F h σ μ)
theorem o_Slc2 : ∀ {m : Bool} {l : PV} {h : EL} {σ : PSt} {lo : Option Int} {μ : Mem}, kSlc2 G F m l h σ (.ok lo μ) = kSlc3 m l lo (evPt G F h σ μ) := by intros; rfl
def kSlc (G : List PV) (F : Nat → List PV → Mem → R PV) (m : Bool) (l h : EL) (σ : PSt) (r : R PV) : R PV :=
  r.bind fun p μ => kSlc2 G F m p h σ (evPt G F l σ μ)
theorem o_Slc : ∀ {m : Bool} {l h : EL} {σ : PSt} {p : PV} {μ : Mem}, kSlc G F m l h σ (.ok p μ) = kSlc2 G F m p h σ (evPt G F l σ μ) := by intros; rfl
theorem r_slc : ∀ {m : Bool} {a : E} {l h : EL} {σ : PSt} {μ : Mem}, evE G F (.slc m a l h) σ μ = kSlc G F m l h σ (evE G F a σ μ) := by intros; simp only [evE, evEL, evAnd, evOr, evAll, evPt, evI, evS, evSL] <;> rfl
theorem r_pt0 : ∀ {σ : PSt} {μ : Mem}, evPt G F .nil σ μ = .ok none μ := by intros; simp only [evE, evEL, evAnd, evOr, evAll, evPt, evI, evS, evSL] <;> rfl
def kPt (r : R PV) : R (Option Int) :=
  r.bind fun p μ => match p with
  | .int b => .ok (some b) μ
  | _ => .bad
theorem o_Pt : ∀ {b : Int} {μ : Mem}, kPt (.ok (.int b) μ) = .ok (some b) μ := by intros; rfl
theorem r_pt1 : ∀ {e : E} {σ : PSt} {μ : Mem}, evPt G F (.cons e .nil) σ μ = kPt (evE G F e σ μ) := by intros; simp only [evE, evEL, evAnd, evOr, evAll, evPt, evI, evS, evSL] <;> rfl
def kEL2 (p : PV) (r : R (List PV)) : R (List PV) :=
  r.bind fun ps μ => .ok (p :: ps) μ
theorem o_EL2 : ∀ {p : PV} {ps : List PV} {μ : Mem}, kEL2 p (.ok ps μ) = .ok (p :: ps) μ := by intros; rfl
def kEL (G : List PV) (F : Nat → List PV → Mem → R PV) (es : EL) (σ : PSt) (r : R PV) : R (List PV) :=
  r.bind fun p μ => kEL2 p (evEL G F es σ μ)
theorem o_EL : ∀ {es : EL} {σ : PSt} {p : PV} {μ : Mem}, kEL G F es σ (.ok p μ) = kEL2 p (evEL G F es σ μ) := by intros; rfl
theorem x_EL : ∀ {es : EL} {σ : PSt} {c : Nat} {x : PV} {μ : Mem}, kEL G F es σ (.exc c x μ) = .exc c x μ := by intros; rfl
theorem x_EL2 : ∀ {p : PV} {c : Nat} {x : PV} {μ : Mem}, kEL2 p (.exc c x μ) = .exc c x μ := by intros; rfl
theorem r_nil : ∀ {σ : PSt} {μ : Mem}, evEL G F .nil σ μ = .ok [] μ := by intros; simp only [evE, evEL, evAnd, evOr, evAll, evPt, evI, evS, evSL] <;> rfl
theorem r_cons : ∀ {e : E} {es : EL} {σ : PSt} {μ : Mem}, evEL G F (.cons e es) σ μ = kEL G F es σ (evE G F e σ μ) := by intros; simp only [evE, evEL, evAnd, evOr, evAll, evPt, evI, evS, evSL] <;> rfl
def kSt2 (xs : List PV) (r : R (List PV)) : R (List PV) :=
  r.bind fun ps μ => .ok (xs ++ ps) μ
theorem o_St2 : ∀ {xs ps : List PV} {μ : Mem}, kSt2 xs (.ok ps μ) = .ok (xs ++ ps) μ := by intros; rfl
def kSt1 (G : List PV) (F : Nat → List PV → Mem → R PV) (es : EL) (σ : PSt) (o : Option (List PV)) (μ : Mem) : R (List PV) :=
  match o with
  | some xs => kSt2 xs (evEL G F es σ μ)
  | none => .bad
theorem o_St1 : ∀ {es : EL} {σ : PSt} {xs : List PV} {μ : Mem}, kSt1 G F es σ (some xs) μ = kSt2 xs (evEL G F es σ μ) := by intros; rfl
def kSt (G : List PV) (F : Nat → List PV → Mem → R PV) (es : EL) (σ : PSt) (r : R PV) : R (List PV) :=
  r.bind fun p μ => kSt1 G F es σ (sqR μ p) μ
theorem o_St : ∀ {es : EL} {σ : PSt} {p : PV} {μ : Mem}, kSt G F es σ (.ok p μ) = kSt1 G F es σ (sqR μ p) μ := by intros; rfl
theorem r_star : ∀ {e : E} {es : EL} {σ : PSt} {μ : Mem}, evEL G F (.star e es) σ μ = kSt G F es σ (evE G F e σ μ) := by
  intros
  simp only [evEL, kSt]
  congr 1
def kTup (r : R (List PV)) : R PV :=
  r.bind fun xs μ => cond (Nat.ble xs.length big) (.ok (.tup xs) μ) .bad
theorem o_Tup : ∀ {xs : List PV} {μ : Mem}, kTup (.ok xs μ) = cond (Nat.ble xs.length big) (.ok (.tup xs) μ) .bad := by intros; rfl
theorem x_Tup : ∀ {c : Nat} {x : PV} {μ : Mem}, kTup (.exc c x μ) = .exc c x μ := by intros; rfl
def kLst (m : Bool) (r : R (List PV)) : R PV :=
  r.bind fun xs μ => cond (Nat.ble xs.length big) (newL m xs μ) .bad
theorem o_Lst : ∀ {m : Bool} {xs : List PV} {μ : Mem}, kLst m (.ok xs μ) = cond (Nat.ble xs.length big) (newL m xs μ) .bad := by intros; rfl
theorem x_Lst : ∀ {m : Bool} {c : Nat} {x : PV} {μ : Mem}, kLst m (.exc c x μ) = .exc c x μ := by intros; rfl
theorem r_tup : ∀ {es : EL} {σ : PSt} {μ : Mem}, evE G F (.tup es) σ μ = kTup (evEL G F es σ μ) := by
  intros
  simp only [evE, kTup, kLst]
  congr 1
  funext xs μ
  cases h : Nat.ble xs.length big <;> simp
theorem r_lst : ∀ {m : Bool} {es : EL} {σ : PSt} {μ : Mem}, evE G F (.lst m es) σ μ = kLst m (evEL G F es σ μ) := by
  intros
  simp only [evE, kTup, kLst]
  congr 1
  funext xs μ
  cases h : Nat.ble xs.length big <;> simp
theorem r_dct : ∀ {m : Bool} {σ : PSt} {μ : Mem}, evE G F (.dct m) σ μ = newD m [] μ := by intros; simp only [evE, evEL, evAnd, evOr, evAll, evPt, evI, evS, evSL] <;> rfl
def kBf1 (m : Bool) (f : BF) (r : R PV) : R PV :=
  r.bind fun p μ => bf1 m f p μ
theorem o_Bf1 : ∀ {m : Bool} {f : BF} {p : PV} {μ : Mem}, kBf1 m f (.ok p μ) = bf1 m f p μ := by intros; rfl
theorem x_Bf1 : ∀ {m : Bool} {f : BF} {c : Nat} {x : PV} {μ : Mem}, kBf1 m f (.exc c x μ) = .exc c x μ := by intros; rfl
theorem r_bf1 : ∀ {m : Bool} {f : BF} {a : E} {σ : PSt} {μ : Mem}, evE G F (.bf1 m f a) σ μ = kBf1 m f (evE G F a σ μ) := by intros; simp only [evE, evEL, evAnd, evOr, evAll, evPt, evI, evS, evSL] <;> rfl
def kBf22 (f : BF) (l : PV) (r : R PV) : R PV :=
  r.bind fun p μ => bf2 f l p μ
theorem o_Bf22 : ∀ {f : BF} {l : PV} {p : PV} {μ : Mem}, kBf22 f l (.ok p μ) = bf2 f l p μ := by intros; rfl
theorem x_Bf22 : ∀ {f : BF} {l : PV} {c : Nat} {x : PV} {μ : Mem}, kBf22 f l (.exc c x μ) = .exc c x μ := by intros; rfl
def kBf2 (G : List PV) (F : Nat → List PV → Mem → R PV) (f : BF) (e : E) (σ : PSt) (r : R PV) : R PV :=
  r.bind fun p μ => kBf22 f p (evE G F e σ μ)
theorem o_Bf2 : ∀ {f : BF} {e : E} {σ : PSt} {p : PV} {μ : Mem}, kBf2 G F f e σ (.ok p μ) = kBf22 f p (evE G F e σ μ) := by intros; rfl
theorem x_Bf2 : ∀ {f : BF} {e : E} {σ : PSt} {c : Nat} {x : PV} {μ : Mem}, kBf2 G F f e σ (.exc c x μ) = .exc c x μ := by intros; rfl
theorem r_bf2 : ∀ {f : BF} {a e : E} {σ : PSt} {μ : Mem}, evE G F (.bf2 f a e) σ μ = kBf2 G F f e σ (evE G F a σ μ) := by intros; simp only [evE, evEL, evAnd, evOr, evAll, evPt, evI, evS, evSL] <;> rfl
def kIsT (ts : List Ty) (r : R PV) : R PV :=
  r.bind fun p μ => .ok (.bl (isT μ p ts)) μ
theorem o_IsT : ∀ {ts : List Ty} {p : PV} {μ : Mem}, kIsT ts (.ok p μ) = .ok (.bl (isT μ p ts)) μ := by intros; rfl
theorem x_IsT : ∀ {ts : List Ty} {c : Nat} {x : PV} {μ : Mem}, kIsT ts (.exc c x μ) = .exc c x μ := by intros; rfl
theorem r_isT : ∀ {a : E} {o : Bool} {ts : List Ty} {σ : PSt} {μ : Mem}, evE G F (.isT a o ts) σ μ = kIsT ts (evE G F a σ μ) := by intros; simp only [evE, evEL, evAnd, evOr, evAll, evPt, evI, evS, evSL] <;> rfl
def kCall (F : Nat → List PV → Mem → R PV) (j : Nat) (r : R (List PV)) : R PV :=
  r.bind fun xs μ => F j xs μ
theorem o_Call : ∀ {j : Nat} {xs : List PV} {μ : Mem}, kCall F j (.ok xs μ) = F j xs μ := by intros; rfl
theorem x_Call : ∀ {j : Nat} {c : Nat} {x : PV} {μ : Mem}, kCall F j (.exc c x μ) = .exc c x μ := by intros; rfl
theorem r_call : ∀ {j : Nat} {es : EL} {σ : PSt} {μ : Mem}, evE G F (.call j es) σ μ = kCall F j (evEL G F es σ μ) := by intros; simp only [evE, evEL, evAnd, evOr, evAll, evPt, evI, evS, evSL] <;> rfl
def kCK2 (F : Nat → List PV → Mem → R PV) (j : Nat) (n1 n2 : Nat) (perm : List Nat) (xs : List PV) (r : R (List PV)) : R PV :=
  r.bind fun ys μ => if Nat.beq xs.length n1 && Nat.beq ys.length n2 then match pick (xs ++ ys) perm with
      | some zs => F j zs μ
      | none => .bad
    else .bad
theorem o_CK2 : ∀ {j n1 n2 : Nat} {perm : List Nat} {xs ys : List PV} {μ : Mem} , kCK2 F j n1 n2 perm xs (.ok ys μ) = if Nat.beq xs.length n1 && Nat.beq ys.length n2 then match pick (xs ++ ys) perm with
      | some zs => F j zs μ
      | none => .bad
    else .bad := by intros; rfl
def kCK (G : List PV) (F : Nat → List PV → Mem → R PV) (j : Nat) (n1 n2 : Nat) (perm : List Nat) (ks : EL) (σ : PSt) (r : R (List PV)) : R PV :=
  r.bind fun xs μ => kCK2 F j n1 n2 perm xs (evEL G F ks σ μ)
theorem o_CK : ∀ {j n1 n2 : Nat} {perm : List Nat} {ks : EL} {σ : PSt} {xs : List PV} {μ : Mem}, kCK G F j n1 n2 perm ks σ (.ok xs μ) = kCK2 F j n1 n2 perm xs (evEL G F ks σ μ) := by intros; rfl
theorem r_callK : ∀ {j : Nat} {es ks : EL} {perm : List Nat} {σ : PSt} {μ : Mem}, evE G F (.callK j es ks perm) σ μ = kCK G F j es.len ks.len perm ks σ (evEL G F es σ μ) := by intros; simp only [evE, evEL, evAnd, evOr, evAll, evPt, evI, evS, evSL] <;> rfl
def kMth2 (f : MF) (l : PV) (r : R PV) : R PV :=
  r.bind fun q μ => mthq f l q μ
theorem o_Mth2 : ∀ {f : MF} {l q : PV} {μ : Mem}, kMth2 f l (.ok q μ) = mthq f l q μ := by intros; rfl
def kMth1 (G : List PV) (F : Nat → List PV → Mem → R PV) (f : MF) (l : PV) (e : E) (σ : PSt) (o : Option (List PV)) (μ : Mem) : R PV :=
  match o with
  | some _ => kMth2 f l (evE G F e σ μ)
  | none => .bad
theorem o_Mth1 : ∀ {f : MF} {l : PV} {e : E} {σ : PSt} {xs : List PV} {μ : Mem}, kMth1 G F f l e σ (some xs) μ = kMth2 f l (evE G F e σ μ) := by intros; rfl
def kMth (G : List PV) (F : Nat → List PV → Mem → R PV) (f : MF) (e : E) (σ : PSt) (r : R PV) : R PV :=
  r.bind fun p μ => kMth1 G F f p e σ (lsR μ p) μ
theorem o_Mth : ∀ {f : MF} {e : E} {σ : PSt} {p : PV} {μ : Mem}, kMth G F f e σ (.ok p μ) = kMth1 G F f p e σ (lsR μ p) μ := by intros; rfl
theorem r_mth : ∀ {f : MF} {a e : E} {σ : PSt} {μ : Mem}, evE G F (.mth f a e) σ μ = kMth G F f e σ (evE G F a σ μ) := by
  intros
  simp only [evE, kMth]
  congr 1
/-- one turn of a comprehension -/
def lcBody (G : List PV) (F : Nat → List PV → Mem → R PV) (vs : List Nat) (tg : TG) (cs : EL) (elt : E) (σ : PSt) (y : YV) (μ : Mem) : R (Option PV) := match bindY tg y (wipeP σ vs) with
  | none => .bad
  | some σ' => (evAll G F cs σ' μ).bind fun b μ => if b then (evE G F elt σ' μ).bind fun q μ => .ok (some q) μ else .ok none μ
def kTurn2 (r : R PV) : R (Option PV) := r.bind fun q μ => .ok (some q) μ
def kTurn (G : List PV) (F : Nat → List PV → Mem → R PV) (elt : E) (σ : PSt) (r : R Bool) : R (Option PV) := r.bind fun b μ => cond b (kTurn2 (evE G F elt σ μ)) (.ok none μ)
theorem o_Turn2 : ∀ {q : PV} {μ : Mem}, kTurn2 (.ok q μ) = .ok (some q) μ := by intros; rfl
theorem o_Turn : ∀ {elt : E} {σ : PSt} {b : Bool} {μ : Mem}, kTurn G F elt σ (.ok b μ) = cond b (kTurn2 (evE G F elt σ μ)) (.ok none μ) := by intros; rfl
theorem turn_eq {vs : List Nat} {tg : TG} {cs : EL} {elt : E} {σ σ' : PSt} {y : YV} {μ : Mem} (h : bindY tg y (wipeP σ vs) = some σ') : lcBody G F vs tg cs elt σ y μ = kTurn G F elt σ' (evAll G F cs σ' μ) := by
  simp only [lcBody, h, kTurn]
  congr 1
  funext b μ
  cases b <;> rfl
def kLc3 (m : Bool) (r : R (List PV)) : R PV := r.bind fun xs μ => newL m xs μ
theorem o_Lc3 : ∀ {m : Bool} {xs : List PV} {μ : Mem}, kLc3 m (.ok xs μ) = newL m xs μ := by intros; rfl
def kLc2 (G : List PV) (F : Nat → List PV → Mem → R PV) (m : Bool) (vs : List Nat) (tg : TG) (cs : EL) (elt : E) (σ : PSt) (r : R IT) : R PV := r.bind fun jt μ => kLc3 m (lcGo (lcBody G F vs tg cs elt σ) big jt [] μ)
theorem o_Lc2 : ∀ {m : Bool} {vs : List Nat} {tg : TG} {cs : EL} {elt : E} {σ : PSt} {jt : IT} {μ : Mem}, kLc2 G F m vs tg cs elt σ (.ok jt μ) = kLc3 m (lcGo (lcBody G F vs tg cs elt σ) big jt [] μ) := by intros; rfl
theorem bind_bind {α β γ : Type} {r : R α} {f : α → Mem → R β} {g : β → Mem → R γ} : (r.bind f).bind g = r.bind fun a μ => (f a μ).bind g := by cases r <;> rfl
/-- a comprehension that walks no dict of the store -/
theorem r_lc : ∀ {m : Bool} {vs : List Nat} {tg : TG} {it : I} {cs : EL} {elt : E} {σ : PSt} {μ : Mem}, lockQ it σ μ = none → evE G F (.lc m vs tg it cs elt) σ μ = kLc2 G F m vs tg cs elt σ (evI G F it σ μ) := by
  intro m vs tg it cs elt σ μ h
  simp only [evE, h, bind_bind]
  rfl
theorem r_lc_rng1 : ∀ {m : Bool} {vs : List Nat} {tg : TG} {a : E} {cs : EL} {elt : E} {σ : PSt} {μ : Mem}, evE G F (.lc m vs tg (.rng1 a) cs elt) σ μ = kLc2 G F m vs tg cs elt σ (evI G F (.rng1 a) σ μ) := fun {m vs tg a cs elt σ μ} => r_lc rfl
theorem r_lc_rng2 : ∀ {m : Bool} {vs : List Nat} {tg : TG} {a b : E} {cs : EL} {elt : E} {σ : PSt} {μ : Mem}, evE G F (.lc m vs tg (.rng2 a b) cs elt) σ μ = kLc2 G F m vs tg cs elt σ (evI G F (.rng2 a b) σ μ) := fun {m vs tg a b cs elt σ μ} => r_lc rfl
theorem r_lc_enu : ∀ {m : Bool} {vs : List Nat} {tg : TG} {a : E} {cs : EL} {elt : E} {σ : PSt} {μ : Mem}, evE G F (.lc m vs tg (.enu a) cs elt) σ μ = kLc2 G F m vs tg cs elt σ (evI G F (.enu a) σ μ) := fun {m vs tg a cs elt σ μ} => r_lc rfl
theorem r_lc_zip : ∀ {m : Bool} {vs : List Nat} {tg : TG} {a b : E} {cs : EL} {elt : E} {σ : PSt} {μ : Mem}, evE G F (.lc m vs tg (.zip a b) cs elt) σ μ = kLc2 G F m vs tg cs elt σ (evI G F (.zip a b) σ μ) := fun {m vs tg a b cs elt σ μ} => r_lc rfl
theorem r_all0 : ∀ {σ : PSt} {μ : Mem}, evAll G F .nil σ μ = .ok true μ := by intros; simp only [evE, evEL, evAnd, evOr, evAll, evPt, evI, evS, evSL] <;> rfl
def kAll (r : R PV) : R Bool :=
  r.bind fun p μ => match p with
  | .bl b => .ok b μ
  | _ => .bad
theorem o_All : ∀ {b : Bool} {μ : Mem}, kAll (.ok (.bl b) μ) = .ok b μ := by intros; rfl
theorem r_all1 : ∀ {e : E} {σ : PSt} {μ : Mem}, evAll G F (.cons e .nil) σ μ = kAll (evE G F e σ μ) := by intros; simp only [evE, evEL, evAnd, evOr, evAll, evPt, evI, evS, evSL] <;> rfl
def kOver (r : R PV) : R IT :=
  r.bind fun p μ => R.opt (itOver μ p) μ
theorem o_Over : ∀ {p : PV} {μ : Mem}, kOver (.ok p μ) = R.opt (itOver μ p) μ := by intros; rfl
theorem r_over : ∀ {e : E} {σ : PSt} {μ : Mem}, evI G F (.over e) σ μ = kOver (evE G F e σ μ) := by intros; simp only [evE, evEL, evAnd, evOr, evAll, evPt, evI, evS, evSL] <;> rfl
def kRng1 (r : R PV) : R IT :=
  r.bind fun p μ => match p with
  | .int j => cond (rngOk j) (.ok (.rng 0 j.toNat) μ) .bad
  | _ => .bad
theorem o_Rng1 : ∀ {j : Int} {μ : Mem}, kRng1 (.ok (.int j) μ) = cond (rngOk j) (.ok (.rng 0 j.toNat) μ) .bad := by intros; rfl
theorem r_rng1 : ∀ {e : E} {σ : PSt} {μ : Mem}, evI G F (.rng1 e) σ μ = kRng1 (evE G F e σ μ) := by
  intros
  simp only [evI, kRng1]
  congr 1
  funext p μ
  cases p with
  | int j => cases h : rngOk j <;> simp
  | _ => rfl
def kRng22 (i : PV) (r : R PV) : R IT :=
  r.bind fun q μ => match i, q with
  | .int i, .int j => cond (rngOk i && rngOk j) (.ok (.rng i (j - i).toNat) μ) .bad
  | _, _ => .bad
theorem o_Rng22 : ∀ {i j : Int} {μ : Mem}, kRng22 (.int i) (.ok (.int j) μ) = cond (rngOk i && rngOk j) (.ok (.rng i (j - i).toNat) μ) .bad := by intros; rfl
def kRng2 (G : List PV) (F : Nat → List PV → Mem → R PV) (e : E) (σ : PSt) (r : R PV) : R IT :=
  r.bind fun p μ => kRng22 p (evE G F e σ μ)
theorem o_Rng2 : ∀ {e : E} {σ : PSt} {p : PV} {μ : Mem}, kRng2 G F e σ (.ok p μ) = kRng22 p (evE G F e σ μ) := by intros; rfl
theorem r_rng2 : ∀ {a e : E} {σ : PSt} {μ : Mem}, evI G F (.rng2 a e) σ μ = kRng2 G F e σ (evE G F a σ μ) := by
  intros
  simp only [evI, kRng2, kRng22]
  congr 1
  funext p μ
  congr 1
  funext q μ
  cases p <;> cases q <;> first | rfl | (rename_i i j; cases h : (rngOk i && rngOk j) <;> simp)
theorem r_sl0 : ∀ {σ : PSt} {μ : Mem}, evSL G sub atts F .nil σ μ = .nx σ μ := by intros; simp only [evSL]
def kSeq (G : List PV) (sub : Nat → Nat → Option Bool) (atts : Nat → List Nat) (F : Nat → List PV → Mem → R PV) (l : SL) (r : Fl) : Fl :=
  r.fl fun σ μ => evSL G sub atts F l σ μ
theorem r_sl : ∀ {s : S} {l : SL} {σ : PSt} {μ : Mem}, evSL G sub atts F (.cons s l) σ μ = kSeq G sub atts F l (evS G sub atts F s σ μ) := by intros; simp only [evSL]; rfl
theorem o_Seq : ∀ {l : SL} {σ : PSt} {μ : Mem}, kSeq G sub atts F l (.nx σ μ) = evSL G sub atts F l σ μ := by intros; rfl
theorem o_SeqR : ∀ {l : SL} {p : PV} {μ : Mem}, kSeq G sub atts F l (.rt p μ) = .rt p μ := by intros; rfl
theorem o_SeqX : ∀ {l : SL} {c : Nat} {p : PV} {μ : Mem}, kSeq G sub atts F l (.exc c p μ) = .exc c p μ := by intros; rfl
theorem o_SeqC : ∀ {l : SL} {b : Bool} {x y : Fl}, kSeq G sub atts F l (cond b x y) = cond b (kSeq G sub atts F l x) (kSeq G sub atts F l y) := by intro _ b _ _; cases b <;> rfl
def kAsg (i : Nat) (σ : PSt) (r : R PV) : Fl :=
  r.fl fun p μ => .nx (σ.set i (some p)) μ
theorem o_Asg : ∀ {i : Nat} {σ : PSt} {p : PV} {μ : Mem}, kAsg i σ (.ok p μ) = .nx (σ.set i (some p)) μ := by intros; rfl
theorem x_Asg : ∀ {i : Nat} {σ : PSt} {c : Nat} {p : PV} {μ : Mem}, kAsg i σ (.exc c p μ) = .exc c p μ := by intros; rfl
theorem r_asg : ∀ {i : Nat} {e : E} {σ : PSt} {μ : Mem}, evS G sub atts F (.asg i e) σ μ = kAsg i σ (evE G F e σ μ) := by intros; simp only [evS]; rfl
def kAT2 (o : Option PSt) (μ : Mem) : Fl :=
  match o with
  | some σ => .nx σ μ
  | none => .bad
theorem o_AT2 : ∀ {σ : PSt} {μ : Mem}, kAT2 (some σ) μ = .nx σ μ := by intros; rfl
def kAT (t : TG) (σ : PSt) (r : R PV) : Fl :=
  r.fl fun p μ => kAT2 (bindT t p σ) μ
theorem o_AT : ∀ {t : TG} {σ : PSt} {p : PV} {μ : Mem}, kAT t σ (.ok p μ) = kAT2 (bindT t p σ) μ := by intros; rfl
theorem r_asgT : ∀ {t : TG} {e : E} {σ : PSt} {μ : Mem}, evS G sub atts F (.asgT t e) σ μ = kAT t σ (evE G F e σ μ) := by intros; simp only [evS]; rfl
def kRet (r : R PV) : Fl :=
  r.fl fun p μ => .rt p μ
theorem o_Ret : ∀ {p : PV} {μ : Mem}, kRet (.ok p μ) = .rt p μ := by intros; rfl
theorem x_Ret : ∀ {c : Nat} {p : PV} {μ : Mem}, kRet (.exc c p μ) = .exc c p μ := by intros; rfl
theorem r_ret : ∀ {e : E} {σ : PSt} {μ : Mem}, evS G sub atts F (.ret e) σ μ = kRet (evE G F e σ μ) := by intros; simp only [evS]; rfl
def kExpr (σ : PSt) (r : R PV) : Fl :=
  r.fl fun _ μ => .nx σ μ
theorem o_Expr : ∀ {σ : PSt} {p : PV} {μ : Mem}, kExpr σ (.ok p μ) = .nx σ μ := by intros; rfl
theorem x_Expr : ∀ {σ : PSt} {c : Nat} {p : PV} {μ : Mem}, kExpr σ (.exc c p μ) = .exc c p μ := by intros; rfl
theorem r_expr : ∀ {e : E} {σ : PSt} {μ : Mem}, evS G sub atts F (.expr e) σ μ = kExpr σ (evE G F e σ μ) := by intros; simp only [evS]; rfl
def kRaise (c : Nat) (r : R PV) : Fl :=
  r.fl fun x μ => .exc c x μ
theorem o_Raise : ∀ {c : Nat} {p : PV} {μ : Mem}, kRaise c (.ok p μ) = .exc c p μ := by intros; rfl
theorem r_raise : ∀ {c : Nat} {e : E} {σ : PSt} {μ : Mem}, evS G sub atts F (.raise c e) σ μ = kRaise c (evE G F e σ μ) := by intros; simp only [evS]; rfl
def kIf (G : List PV) (sub : Nat → Nat → Option Bool) (atts : Nat → List Nat) (F : Nat → List PV → Mem → R PV) (a b : SL) (σ : PSt) (r : R PV) : Fl :=
  r.fl fun p μ => match p with
  | .bl t => cond t (evSL G sub atts F a σ μ) (evSL G sub atts F b σ μ)
  | _ => .bad
theorem o_If : ∀ {a b : SL} {σ : PSt} {t : Bool} {μ : Mem}, kIf G sub atts F a b σ (.ok (.bl t) μ) = cond t (evSL G sub atts F a σ μ) (evSL G sub atts F b σ μ) := by intros; rfl
theorem x_If : ∀ {a b : SL} {σ : PSt} {c : Nat} {p : PV} {μ : Mem}, kIf G sub atts F a b σ (.exc c p μ) = .exc c p μ := by intros; rfl
theorem r_if : ∀ {e : E} {a b : SL} {σ : PSt} {μ : Mem}, evS G sub atts F (.ife e a b) σ μ = kIf G sub atts F a b σ (evE G F e σ μ) := by
  intros
  simp only [evS, kIf]
  congr 1
  funext p μ
  cases p with
  | bl t => cases t <;> rfl
  | _ => rfl
def kFor (G : List PV) (sub : Nat → Nat → Option Bool) (atts : Nat → List Nat) (F : Nat → List PV → Mem → R PV) (tg : TG) (b : SL) (σ : PSt) (r : R IT) : Fl :=
  r.fl fun jt μ => forGo tg (evSL G sub atts F b) big jt σ μ
theorem o_For : ∀ {tg : TG} {b : SL} {σ : PSt} {jt : IT} {μ : Mem}, kFor G sub atts F tg b σ (.ok jt μ) = forGo tg (evSL G sub atts F b) big jt σ μ := by intros; rfl
theorem r_for : ∀ {tg : TG} {it : I} {b : SL} {σ : PSt} {μ : Mem}, evS G sub atts F (.for tg it b) σ μ = kFor G sub atts F tg b σ (evI G F it σ μ) := by intros; simp only [evS]; rfl
def kSx4 (p q x : PV) (σ : PSt) (μ : Mem) : Fl :=
  match setQ p q x μ with
  | some μ => .nx σ μ
  | none => .bad
def kSx3 (p x : PV) (σ : PSt) (r : R PV) : Fl :=
  r.fl fun q μ => kSx4 p q x σ μ
theorem o_Sx3 : ∀ {p q x : PV} {σ : PSt} {μ : Mem}, kSx3 p x σ (.ok q μ) = kSx4 p q x σ μ := by intros; rfl
def kSx2 (G : List PV) (F : Nat → List PV → Mem → R PV) (x : PV) (b : E) (σ : PSt) (r : R PV) : Fl :=
  r.fl fun p μ => kSx3 p x σ (evE G F b σ μ)
theorem o_Sx2 : ∀ {x p : PV} {b : E} {σ : PSt} {μ : Mem}, kSx2 G F x b σ (.ok p μ) = kSx3 p x σ (evE G F b σ μ) := by intros; rfl
def kSx (G : List PV) (F : Nat → List PV → Mem → R PV) (a b : E) (σ : PSt) (r : R PV) : Fl :=
  r.fl fun x μ => kSx2 G F x b σ (evE G F a σ μ)
theorem o_Sx : ∀ {x : PV} {a b : E} {σ : PSt} {μ : Mem}, kSx G F a b σ (.ok x μ) = kSx2 G F x b σ (evE G F a σ μ) := by intros; rfl
theorem r_setx : ∀ {a b e : E} {σ : PSt} {μ : Mem}, evS G sub atts F (.setx a b e) σ μ = kSx G F a b σ (evE G F e σ μ) := by intros; simp only [evS]; rfl
theorem r_doc : ∀ {σ : PSt} {μ : Mem}, evS G sub atts F .doc σ μ = .nx σ μ := by intros; simp only [evS]
theorem m_and : ∀ {b c : Bool} {μ : Mem}, cond b (R.ok (PV.bl c) μ) (.ok (PV.bl false) μ) = .ok (PV.bl (b && c)) μ := by intro b _ _; cases b <;> rfl
theorem m_or : ∀ {b c : Bool} {μ : Mem}, cond b (R.ok (PV.bl true) μ) (.ok (PV.bl c) μ) = .ok (PV.bl (b || c)) μ := by intro b _ _; cases b <;> rfl
end
theorem bg1 : Nat.ble 1 big = true := by decide
theorem bg2 : Nat.ble 2 big = true := by decide
theorem bg3 : Nat.ble 3 big = true := by decide
theorem bg4 : Nat.ble 4 big = true := by decide
theorem bg5 : Nat.ble 5 big = true := by decide
theorem bg6 : Nat.ble 6 big = true := by decide
theorem bg7 : Nat.ble 7 big = true := by decide
theorem bg8 : Nat.ble 8 big = true := by decide
theorem bg9 : Nat.ble 9 big = true := by decide
theorem bg10 : Nat.ble 10 big = true := by decide
theorem bg11 : Nat.ble 11 big = true := by decide
theorem bg12 : Nat.ble 12 big = true := by decide
theorem bg13 : Nat.ble 13 big = true := by decide
theorem bg14 : Nat.ble 14 big = true := by decide
theorem bg15 : Nat.ble 15 big = true := by decide
/-- two blocks, one behind the other -/
def slApp : SL → SL → SL
  | .nil, r => r
  | .cons s l, r => .cons s (slApp l r)
theorem app_nx {G : List PV} {F : Nat → List PV → Mem → R PV} {sub : Nat → Nat → Option Bool} {atts : Nat → List Nat} : ∀ {l r : SL} {σ σ' : PSt} {μ μ' : Mem}, evSL G sub atts F l σ μ = .nx σ' μ' → evSL G sub atts F (slApp l r) σ μ = evSL G sub atts F r σ' μ'
  | .nil, r, σ, σ', μ, μ', h => by
    rw [r_sl0] at h
    cases h; rfl
  | .cons s l, r, σ, σ', μ, μ', h => by
    rw [r_sl] at h
    show evSL G sub atts F (.cons s (slApp l r)) σ μ = _
    rw [r_sl]
    cases hs : evS G sub atts F s σ μ with
    | nx σ1 μ1 =>
      rw [hs, o_Seq] at h
      rw [o_Seq]
      exact app_nx h
    | rt p m => rw [hs, o_SeqR] at h; cases h
    | exc c p m => rw [hs, o_SeqX] at h; cases h
    | bad => rw [hs] at h; cases h
end HP
set_option Elab.async false
set_option linter.all false
set_option maxRecDepth 100000
set_option maxHeartbeats 8000000
namespace HP
namespace K77
open PySem PySem.Spec PyProof.Rows L2
/-- is_integer(value): value -/
def f_is_integer : FD := ⟨1, 1, false, true, (.cons (.ret (.conj (.cons (.isT (.var 0) true [.int]) (.cons (.not (.isT (.var 0) true [.bool])) .nil)))) .nil)⟩
/-- is_within(value, low, high): value low high -/
def f_is_within : FD := ⟨3, 3, false, true, (.cons (.ret (.conj (.cons (.call 0 (.cons (.var 0) .nil)) (.cons (.chn .LtE .LtE (.var 1) (.var 0) (.var 2)) .nil)))) .nil)⟩
/-- is_index(value, many): value many -/
def f_is_index : FD := ⟨2, 2, false, true, (.cons (.ret (.call 1 (.cons (.var 0) (.cons (.int 0) (.cons (.bin false .Sub (.var 1) (.int 1)) .nil))))) .nil)⟩
/-- is_list(value): value -/
def f_is_list : FD := ⟨1, 1, false, true, (.cons (.ret (.isT (.var 0) false [.lst, .tup])) .nil)⟩
/-- is_tuple(value, many): value many -/
def f_is_tuple : FD := ⟨2, 2, false, true, (.cons (.ret (.conj (.cons (.isT (.var 0) true [.tup]) (.cons (.cmp .Eq (.bf1 false .len (.var 0)) (.var 1)) .nil)))) .nil)⟩
/-- ascends(items): items at -/
def f_ascends : FD := ⟨1, 2, false, true, (.cons (.ret (.bf1 false .all (.lc false [1] (.nm 1) (.rng2 (.int 1) (.bf1 false .len (.var 0))) .nil (.cmp .Lt (.idx (.var 0) (.bin false .Sub (.var 1) (.int 1))) (.idx (.var 0) (.var 1)))))) .nil)⟩
/-- is_name(value): value sign -/
def f_is_name : FD := ⟨1, 2, false, true, (.cons (.ret (.conj (.cons (.isT (.var 0) true [.str]) (.cons (.chn .LtE .LtE (.int 1) (.bf1 false .len (.var 0)) (.int 8)) (.cons (.bf1 false .all (.lc false [1] (.nm 1) (.over (.var 0)) .nil (.cmp .In (.var 1) (.gl 0)))) .nil))))) .nil)⟩
/-- check_many(many, low, high): many low high -/
def f_check_many : FD := ⟨3, 3, false, true, (.cons (.ife (.not (.call 1 (.cons (.var 0) (.cons (.var 1) (.cons (.var 2) .nil))))) (.cons (.raise 6 (.var 0)) .nil) .nil) .nil)⟩
/-- look_row(many): many here -/
def f_look_row : FD := ⟨1, 2, false, true, (.cons (.ret (.tup (.cons (.str [108, 111, 111, 107]) (.cons (.bf1 false .tuple (.lc false [1] (.nm 1) (.rng1 (.var 0)) .nil (.tup (.cons (.var 1) (.cons (.var 1) .nil))))) .nil)))) .nil)⟩
/-- counter(many): many add here -/
def f_counter : FD := ⟨1, 3, false, true, (.cons (.expr (.call 7 (.cons (.var 0) (.cons (.int 1) (.cons (.int 4) .nil))))) (.cons (.asg 1 (.tup (.cons (.str [97, 100, 100]) (.cons (.bf1 false .tuple (.lc false [2] (.nm 2) (.rng1 (.var 0)) .nil (.tup (.cons (.bin false .Mod (.bin false .Add (.var 2) (.int 1)) (.var 0)) (.cons (.var 2) .nil))))) .nil)))) (.cons (.ret (.tup (.cons (.var 1) (.cons (.tup (.cons (.str [99, 108, 101, 97, 114]) (.cons (.bf1 false .tuple (.lc false [2] (.nm 2) (.rng1 (.var 0)) .nil (.tup (.cons (.int 0) (.cons (.int 0) .nil))))) .nil))) (.cons (.call 8 (.cons (.var 0) .nil)) .nil))))) .nil)))⟩
/-- latch(): free grab -/
def f_latch : FD := ⟨0, 2, false, true, (.cons (.asgT (.tup (.cons (.nm 0) (.cons (.nm 1) .nil))) (.tup (.cons (.tup (.cons (.str [102, 114, 101, 101]) (.cons (.tup (.cons (.tup (.cons (.int 0) (.cons (.int 0) .nil))) (.cons (.tup (.cons (.int 0) (.cons (.int 0) .nil))) .nil))) .nil))) (.cons (.tup (.cons (.str [103, 114, 97, 98]) (.cons (.tup (.cons (.tup (.cons (.int 1) (.cons (.int 0) .nil))) (.cons .non .nil))) .nil))) .nil)))) (.cons (.ret (.tup (.cons (.var 0) (.cons (.var 1) (.cons (.tup (.cons (.str [116, 114, 121]) (.cons (.tup (.cons (.tup (.cons (.int 1) (.cons (.int 1) .nil))) (.cons (.tup (.cons (.int 1) (.cons (.int 0) .nil))) .nil))) .nil))) .nil))))) .nil))⟩
/-- stock(many): many give here -/
def f_stock : FD := ⟨1, 3, false, true, (.cons (.expr (.call 7 (.cons (.var 0) (.cons (.int 1) (.cons (.int 5) .nil))))) (.cons (.asg 1 (.tup (.cons (.str [103, 105, 118, 101]) (.cons (.bf1 false .tuple (.lc false [2] (.nm 2) (.rng1 (.bin false .Add (.var 0) (.int 1))) .nil (.ife (.cmp .Lt (.var 2) (.var 0)) (.tup (.cons (.bin false .Add (.var 2) (.int 1)) (.cons (.int 0) .nil))) .non))) .nil)))) (.cons (.ret (.tup (.cons (.var 1) (.cons (.tup (.cons (.str [116, 97, 107, 101]) (.cons (.bf1 false .tuple (.lc false [2] (.nm 2) (.rng1 (.bin false .Add (.var 0) (.int 1))) .nil (.ife (.cmp .Gt (.var 2) (.int 0)) (.tup (.cons (.bin false .Sub (.var 2) (.int 1)) (.cons (.int 0) .nil))) .non))) .nil))) .nil)))) .nil)))⟩
/-- is_item(value, many): value many -/
def f_is_item : FD := ⟨2, 2, false, true, (.cons (.ret (.disj (.cons (.cmp .Is (.var 0) .non) (.cons (.conj (.cons (.call 4 (.cons (.var 0) (.cons (.int 2) .nil))) (.cons (.call 2 (.cons (.idx (.var 0) (.int 0)) (.cons (.var 1) .nil))) (.cons (.call 1 (.cons (.idx (.var 0) (.int 1)) (.cons (.int 0) (.cons (.int 9) .nil)))) .nil)))) .nil)))) .nil)⟩
/-- told_in(items): items item -/
def f_told_in : FD := ⟨1, 2, false, true, (.cons (.ret (.bf1 false .tuple (.srtS false [1] (.nm 1) (.over (.var 0)) (.cons (.cmp .IsNot (.var 1) .non) .nil) (.idx (.var 1) (.int 1))))) .nil)⟩
/-- is_row(value, many): value many item -/
def f_is_row : FD := ⟨2, 3, false, true, (.cons (.ife (.disj (.cons (.not (.call 4 (.cons (.var 0) (.cons (.var 1) .nil)))) (.cons (.not (.bf1 false .all (.lc false [2] (.nm 2) (.over (.var 0)) .nil (.call 12 (.cons (.var 2) (.cons (.var 1) .nil)))))) .nil))) (.cons (.ret (.bl false)) .nil) .nil) (.cons (.ret (.cmp .LtE (.bf1 false .len (.call 13 (.cons (.var 0) .nil))) (.gl 3))) .nil))⟩
/-- is_table(value): value many pair name items -/
def f_is_table : FD := ⟨1, 5, false, true, (.cons (.ife (.disj (.cons (.not (.isT (.var 0) true [.tup])) (.cons (.not (.chn .LtE .LtE (.int 1) (.bf1 false .len (.var 0)) (.gl 1))) .nil))) (.cons (.ret (.bl false)) .nil) .nil) (.cons (.ife (.not (.bf1 false .all (.lc false [2] (.nm 2) (.over (.var 0)) .nil (.conj (.cons (.call 4 (.cons (.var 2) (.cons (.int 2) .nil))) (.cons (.call 6 (.cons (.idx (.var 2) (.int 0)) .nil)) (.cons (.isT (.idx (.var 2) (.int 1)) true [.tup]) .nil))))))) (.cons (.ret (.bl false)) .nil) .nil) (.cons (.asg 1 (.bf1 false .len (.idx (.idx (.var 0) (.int 0)) (.int 1)))) (.cons (.ife (.disj (.cons (.not (.chn .LtE .LtE (.int 1) (.var 1) (.gl 2))) (.cons (.not (.call 5 (.cons (.lc false [3, 4] (.tup (.cons (.nm 3) (.cons (.nm 4) .nil))) (.over (.var 0)) .nil (.var 3)) .nil))) .nil))) (.cons (.ret (.bl false)) .nil) .nil) (.cons (.ret (.bf1 false .all (.lc false [3, 4] (.tup (.cons (.nm 3) (.cons (.nm 4) .nil))) (.over (.var 0)) .nil (.call 14 (.cons (.var 4) (.cons (.var 1) .nil)))))) .nil)))))⟩
/-- items_of(table, operation): table operation -/
def f_items_of : FD := ⟨2, 2, false, true, (.cons (.ret (.idx (.bf1 false .dict (.var 0)) (.var 1))) .nil)⟩
/-- check_operation(table, operation): table operation -/
def f_check_operation : FD := ⟨2, 2, false, true, (.cons (.ife (.not (.call 15 (.cons (.var 0) .nil))) (.cons (.raise 1 (.var 0)) .nil) .nil) (.cons (.ife (.disj (.cons (.not (.call 6 (.cons (.var 1) .nil))) (.cons (.cmp .NotIn (.var 1) (.bf1 false .dict (.var 0))) .nil))) (.cons (.raise 2 (.var 1)) .nil) .nil) .nil))⟩
/-- told_values(table, operation): table operation -/
def f_told_values : FD := ⟨2, 2, false, true, (.cons (.expr (.call 17 (.cons (.var 0) (.cons (.var 1) .nil)))) (.cons (.ret (.call 13 (.cons (.call 16 (.cons (.var 0) (.cons (.var 1) .nil))) .nil))) .nil))⟩
/-- waiting(table, operation): table operation items here -/
def f_waiting : FD := ⟨2, 4, false, true, (.cons (.expr (.call 17 (.cons (.var 0) (.cons (.var 1) .nil)))) (.cons (.asg 2 (.call 16 (.cons (.var 0) (.cons (.var 1) .nil)))) (.cons (.ret (.bf1 false .tuple (.lc false [3] (.nm 3) (.rng1 (.bf1 false .len (.var 2))) (.cons (.cmp .Is (.idx (.var 2) (.var 3)) .non) .nil) (.var 3)))) .nil)))⟩
/-- is_blank(table, operation): table operation items here item -/
def f_is_blank : FD := ⟨2, 5, false, true, (.cons (.expr (.call 17 (.cons (.var 0) (.cons (.var 1) .nil)))) (.cons (.asg 2 (.call 16 (.cons (.var 0) (.cons (.var 1) .nil)))) (.cons (.ife (.cmp .In .non (.var 2)) (.cons (.ret (.bl false)) .nil) .nil) (.cons (.ret (.bf1 false .all (.lc false [3, 4] (.tup (.cons (.nm 3) (.cons (.nm 4) .nil))) (.enu (.var 2)) .nil (.cmp .Eq (.var 4) (.tup (.cons (.var 3) (.cons (.idx (.idx (.var 2) (.int 0)) (.int 1)) .nil))))))) .nil))))⟩
/-- is_look(table, operation): table operation items here item -/
def f_is_look : FD := ⟨2, 5, false, true, (.cons (.expr (.call 17 (.cons (.var 0) (.cons (.var 1) .nil)))) (.cons (.asg 2 (.call 16 (.cons (.var 0) (.cons (.var 1) .nil)))) (.cons (.ife (.cmp .In .non (.var 2)) (.cons (.ret (.bl false)) .nil) .nil) (.cons (.ret (.conj (.cons (.bf1 false .all (.lc false [3, 4] (.tup (.cons (.nm 3) (.cons (.nm 4) .nil))) (.enu (.var 2)) .nil (.cmp .Eq (.idx (.var 4) (.int 0)) (.var 3)))) (.cons (.cmp .Eq (.bf1 false .len (.call 13 (.cons (.var 2) .nil))) (.bf1 false .len (.var 2))) .nil)))) .nil))))⟩
/-- many_of(table): table -/
def f_many_of : FD := ⟨1, 1, false, true, (.cons (.ret (.bf1 false .len (.idx (.idx (.var 0) (.int 0)) (.int 1)))) .nil)⟩
/-- is_world(value): value count name table thing -/
def f_is_world : FD := ⟨1, 5, false, true, (.cons (.ife (.disj (.cons (.not (.isT (.var 0) true [.tup])) (.cons (.not (.chn .LtE .LtE (.int 1) (.bf1 false .len (.var 0)) (.gl 4))) .nil))) (.cons (.ret (.bl false)) .nil) .nil) (.cons (.ife (.not (.bf1 false .all (.lc false [4] (.nm 4) (.over (.var 0)) .nil (.conj (.cons (.call 4 (.cons (.var 4) (.cons (.int 2) .nil))) (.cons (.call 6 (.cons (.idx (.var 4) (.int 0)) .nil)) (.cons (.call 15 (.cons (.idx (.var 4) (.int 1)) .nil)) .nil))))))) (.cons (.ret (.bl false)) .nil) .nil) (.cons (.asg 1 (.int 1)) (.cons (.for (.tup (.cons (.nm 2) (.cons (.nm 3) .nil))) (.over (.var 0)) (.cons (.asg 1 (.bin false .Mult (.var 1) (.call 22 (.cons (.var 3) .nil)))) .nil)) (.cons (.ret (.conj (.cons (.cmp .LtE (.var 1) (.gl 5)) (.cons (.call 5 (.cons (.lc false [2, 3] (.tup (.cons (.nm 2) (.cons (.nm 3) .nil))) (.over (.var 0)) .nil (.var 2)) .nil)) .nil)))) .nil)))))⟩
/-- check_world(world): world -/
def f_check_world : FD := ⟨1, 1, false, true, (.cons (.ife (.not (.call 23 (.cons (.var 0) .nil))) (.cons (.raise 3 (.var 0)) .nil) .nil) .nil)⟩
/-- deeds_in(world): world name table operation items -/
def f_deeds_in : FD := ⟨1, 5, false, true, (.cons (.ret (.lc2 false [1, 2, 3, 4] [3, 4] (.tup (.cons (.nm 1) (.cons (.nm 2) .nil))) (.over (.var 0)) .nil (.tup (.cons (.nm 3) (.cons (.nm 4) .nil))) (.over (.var 2)) .nil (.tup (.cons (.var 1) (.cons (.var 3) .nil))))) .nil)⟩
/-- deeds(world): world -/
def f_deeds : FD := ⟨1, 1, false, true, (.cons (.expr (.call 24 (.cons (.var 0) .nil))) (.cons (.ret (.call 25 (.cons (.var 0) .nil))) .nil))⟩
/-- is_standing(world, value): world value here name table -/
def f_is_standing : FD := ⟨2, 5, false, true, (.cons (.ife (.not (.call 4 (.cons (.var 1) (.cons (.bf1 false .len (.var 0)) .nil)))) (.cons (.ret (.bl false)) .nil) .nil) (.cons (.ret (.bf1 false .all (.lc false [2, 3, 4] (.tup (.cons (.nm 2) (.cons (.tup (.cons (.nm 3) (.cons (.nm 4) .nil))) .nil))) (.zip (.var 1) (.var 0)) .nil (.call 2 (.cons (.var 2) (.cons (.call 22 (.cons (.var 4) .nil)) .nil)))))) .nil))⟩
/-- is_deed(world, value): world value -/
def f_is_deed : FD := ⟨2, 2, false, true, (.cons (.ife (.disj (.cons (.not (.call 4 (.cons (.var 1) (.cons (.int 2) .nil)))) (.cons (.not (.call 6 (.cons (.idx (.var 1) (.int 0)) .nil))) (.cons (.not (.call 6 (.cons (.idx (.var 1) (.int 1)) .nil))) .nil)))) (.cons (.ret (.bl false)) .nil) .nil) (.cons (.ret (.cmp .In (.var 1) (.call 25 (.cons (.var 0) .nil)))) .nil))⟩
/-- place_of(world, thing): world thing name table -/
def f_place_of : FD := ⟨2, 4, false, true, (.cons (.ret (.mth .index (.lc false [2, 3] (.tup (.cons (.nm 2) (.cons (.nm 3) .nil))) (.over (.var 0)) .nil (.var 2)) (.var 1))) .nil)⟩
/-- done(world, standing, deed): world standing deed at item -/
def f_done : FD := ⟨3, 5, false, true, (.cons (.asg 3 (.call 29 (.cons (.var 0) (.cons (.idx (.var 2) (.int 0)) .nil)))) (.cons (.asg 4 (.idx (.call 16 (.cons (.idx (.idx (.var 0) (.var 3)) (.int 1)) (.cons (.idx (.var 2) (.int 1)) .nil))) (.idx (.var 1) (.var 3)))) (.cons (.ret (.ife (.cmp .Is (.var 4) .non) .non (.tup (.cons (.tup (.star (.slc false (.var 1) .nil (.cons (.var 3) .nil)) (.cons (.idx (.var 4) (.int 0)) (.star (.slc false (.var 1) (.cons (.bin false .Add (.var 3) (.int 1)) .nil) .nil) .nil)))) (.cons (.idx (.var 4) (.int 1)) .nil))))) .nil)))⟩
/-- check_standing(world, standing): world standing -/
def f_check_standing : FD := ⟨2, 2, false, true, (.cons (.expr (.call 24 (.cons (.var 0) .nil))) (.cons (.ife (.not (.call 27 (.cons (.var 0) (.cons (.var 1) .nil)))) (.cons (.raise 4 (.var 1)) .nil) .nil) .nil))⟩
/-- row_done(world, standing, row): world standing row told deed behind -/
def f_row_done : FD := ⟨3, 6, false, true, (.cons (.asg 3 (.tup .nil)) (.cons (.for (.nm 4) (.over (.var 2)) (.cons (.asg 5 (.call 30 (.cons (.var 0) (.cons (.var 1) (.cons (.var 4) .nil))))) (.cons (.ife (.cmp .Is (.var 5) .non) (.cons (.ret .non) .nil) .nil) (.cons (.asgT (.tup (.cons (.nm 1) (.cons (.nm 3) .nil))) (.tup (.cons (.idx (.var 5) (.int 0)) (.cons (.tup (.star (.var 3) (.cons (.idx (.var 5) (.int 1)) .nil))) .nil)))) .nil)))) (.cons (.ret (.tup (.cons (.var 1) (.cons (.var 3) .nil)))) .nil)))⟩
/-- do_row(world, standing, row): world standing row deed -/
def f_do_row : FD := ⟨3, 4, false, true, (.cons (.expr (.call 31 (.cons (.var 0) (.cons (.var 1) .nil)))) (.cons (.ife (.disj (.cons (.not (.call 3 (.cons (.var 2) .nil))) (.cons (.cmp .Gt (.bf1 false .len (.var 2)) (.gl 6)) (.cons (.not (.bf1 false .all (.lc false [3] (.nm 3) (.over (.var 2)) .nil (.call 28 (.cons (.var 0) (.cons (.var 3) .nil)))))) .nil)))) (.cons (.raise 5 (.var 2)) .nil) .nil) (.cons (.ret (.call 32 (.cons (.var 0) (.cons (.var 1) (.cons (.var 2) .nil))))) .nil)))⟩
/-- _law_cell(script, k): script k -/
def f__law_cell : FD := ⟨2, 2, false, true, (.cons (.ret (.ife (.cmp .Lt (.var 1) (.bf1 false .len (.var 0))) (.idx (.var 0) (.var 1)) (.bin false .Add (.bin false .Mult (.int 7213) (.var 1)) (.bin false .Mod (.bf1 false .int (.bf1 false .sum (.slc false (.var 0) .nil (.cons (.int 1) .nil)))) (.int 1000033))))) .nil)⟩
/-- _law_box(great): great -/
def f__law_box : FD := ⟨1, 1, true, false, (.cons (.ret (.lst true (.cons (.bf1 false .abs (.var 0)) (.cons (.cmp .GtE (.bf1 false .abs (.var 0)) (.bin false .Pow (.int 10) (.int 18))) (.cons (.bin false .Mod (.bf1 false .int (.bf1 false .abs (.var 0))) (.int 2147483629)) (.cons (.int 0) .nil)))))) .nil)⟩
/-- _law_take(box, many): box many digit mixed -/
def f__law_take : FD := ⟨2, 4, false, true, (.cons (.ife (.conj (.cons (.idx (.var 0) (.int 1)) (.cons (.cmp .Gt (.idx (.var 0) (.int 0)) (.int 0)) .nil))) (.cons (.asg 2 (.bin false .Mod (.bf1 false .int (.idx (.var 0) (.int 0))) (.var 1))) (.cons (.setx (.var 0) (.int 0) (.bin false .FloorDiv (.idx (.var 0) (.int 0)) (.var 1))) (.cons (.ret (.var 2)) .nil))) .nil) (.cons (.setx (.var 0) (.int 3) (.bin false .Add (.idx (.var 0) (.int 3)) (.int 1))) (.cons (.asg 3 (.bin false .Mod (.bf1 false .int (.bin false .Pow (.bin false .Add (.bin false .Add (.idx (.var 0) (.int 2)) (.bin false .Mult (.int 15485917) (.idx (.var 0) (.int 3)))) (.int 179424779)) (.int 5))) (.int 2147483647))) (.cons (.ret (.bin false .Mod (.bf1 false .int (.bin false .FloorDiv (.bin false .Mod (.bf1 false .int (.bin false .Pow (.bin false .Add (.bin false .Mult (.var 3) (.int 48271)) (.bin false .Mult (.int 104801) (.idx (.var 0) (.int 3)))) (.int 3))) (.int 2147483587)) (.int 64))) (.var 1))) .nil))))⟩
/-- _law_pick(box, items): box items -/
def f__law_pick : FD := ⟨2, 2, false, true, (.cons (.ret (.idx (.var 1) (.call 36 (.cons (.var 0) (.cons (.bf1 false .len (.var 1)) .nil))))) .nil)⟩
/-- _law_same(given, due): given due key k -/
def f__law_same : FD := ⟨2, 4, false, true, (.cons (.ife (.disj (.cons (.cmp .Is (.var 1) .non) (.cons (.isT (.var 1) true [.bool]) .nil))) (.cons (.ret (.ife (.cmp .Is (.var 1) .non) (.cmp .Is (.var 0) .non) (.conj (.cons (.isT (.var 0) true [.bool]) (.cons (.cmp .Eq (.cmp .Is (.var 0) (.bl true)) (.cmp .Is (.var 1) (.bl true))) .nil))))) .nil) .nil) (.cons (.ife (.isT (.var 1) true [.int]) (.cons (.ret (.conj (.cons (.isT (.var 0) true [.int]) (.cons (.not (.isT (.var 0) true [.bool])) (.cons (.cmp .Eq (.bin false .Sub (.bf1 false .int (.var 0)) (.var 1)) (.int 0)) .nil))))) .nil) .nil) (.cons (.ife (.isT (.var 1) true [.str]) (.cons (.ret (.conj (.cons (.isT (.var 0) true [.str]) (.cons (.cmp .Eq (.var 0) (.var 1)) .nil)))) .nil) .nil) (.cons (.ife (.isT (.var 1) true [.dct]) (.cons (.ife (.disj (.cons (.not (.isT (.var 0) true [.dct])) (.cons (.cmp .NotEq (.bf1 false .len (.var 0)) (.bf1 false .len (.var 1))) .nil))) (.cons (.ret (.bl false)) .nil) .nil) (.cons (.ret (.cmp .Eq (.lc false [2] (.nm 2) (.over (.var 1)) (.cons (.disj (.cons (.cmp .NotIn (.var 2) (.var 0)) (.cons (.not (.call 38 (.cons (.idx (.var 0) (.var 2)) (.cons (.idx (.var 1) (.var 2)) .nil)))) .nil))) .nil) (.var 2)) (.lst false .nil))) .nil)) .nil) (.cons (.ife (.disj (.cons (.not (.isT (.var 1) false [.lst, .tup])) (.cons (.not (.isT (.var 0) false [.lst, .tup])) .nil))) (.cons (.ret (.bl false)) .nil) .nil) (.cons (.ife (.disj (.cons (.cmp .NotEq (.isT (.var 0) true [.lst]) (.isT (.var 1) true [.lst])) (.cons (.cmp .NotEq (.bf1 false .len (.var 0)) (.bf1 false .len (.var 1))) .nil))) (.cons (.ret (.bl false)) .nil) .nil) (.cons (.ret (.cmp .Eq (.lc false [3] (.nm 3) (.rng1 (.bf1 false .len (.var 1))) (.cons (.not (.call 38 (.cons (.idx (.var 0) (.var 3)) (.cons (.idx (.var 1) (.var 3)) .nil)))) .nil) (.var 3)) (.lst false .nil))) .nil)))))))⟩
/-- _law_copy(value): value item key -/
def f__law_copy : FD := ⟨1, 3, true, false, (.cons (.ife (.isT (.var 0) true [.lst]) (.cons (.ret (.lc true [1] (.nm 1) (.over (.var 0)) .nil (.call 39 (.cons (.var 1) .nil)))) .nil) .nil) (.cons (.ife (.isT (.var 0) true [.tup]) (.cons (.ret (.bf1 true .tuple (.lc false [1] (.nm 1) (.over (.var 0)) .nil (.call 39 (.cons (.var 1) .nil))))) .nil) .nil) (.cons (.ret (.ife (.isT (.var 0) true [.dct]) (.bf1 true .dict (.lc false [2] (.nm 2) (.over (.var 0)) .nil (.tup (.cons (.var 2) (.cons (.call 39 (.cons (.idx (.var 0) (.var 2)) .nil)) .nil))))) (.var 0))) .nil)))⟩
/-- _law_very(given, value): given value -/
def f__law_very : FD := ⟨2, 2, false, true, (.cons (.ife (.not (.call 38 (.cons (.var 0) (.cons (.var 1) .nil)))) (.cons (.ret (.bl false)) .nil) .nil) (.cons (.ife (.isT (.var 1) true [.lst]) (.cons (.expr (.mth .append (.var 1) (.str [109, 111, 114, 101]))) .nil) .nil) (.cons (.ife (.isT (.var 1) true [.dct]) (.cons (.setx (.var 1) (.str [109, 111, 114, 101]) (.int 1)) .nil) .nil) (.cons (.ret (.call 38 (.cons (.var 0) (.cons (.var 1) .nil)))) .nil))))⟩
/-- _law_due(which, many): which many rows give here -/
def f__law_due : FD := ⟨2, 5, false, true, (.cons (.ife (.cmp .Eq (.var 0) (.int 0)) (.cons (.asg 2 (.lst false (.cons (.tup (.cons (.str [97, 100, 100]) (.cons (.bf1 false .tuple (.lc false [4] (.nm 4) (.rng1 (.var 1)) .nil (.tup (.cons (.ife (.cmp .Lt (.bin false .Add (.var 4) (.int 1)) (.var 1)) (.bin false .Add (.var 4) (.int 1)) (.int 0)) (.cons (.var 4) .nil))))) .nil))) (.cons (.tup (.cons (.str [99, 108, 101, 97, 114]) (.cons (.bf1 false .tuple (.lc false [4] (.nm 4) (.rng1 (.var 1)) .nil (.tup (.cons (.int 0) (.cons (.int 0) .nil))))) .nil))) .nil)))) (.cons (.ret (.bf1 false .tuple (.bin false .Add (.var 2) (.lst false (.cons (.tup (.cons (.str [108, 111, 111, 107]) (.cons (.bf1 false .tuple (.lc false [4] (.nm 4) (.rng1 (.var 1)) .nil (.tup (.cons (.var 4) (.cons (.var 4) .nil))))) .nil))) .nil))))) .nil)) .nil) (.cons (.ife (.cmp .Eq (.var 0) (.int 1)) (.cons (.asg 3 (.bf1 false .tuple (.lc false [4] (.nm 4) (.rng1 (.bin false .Add (.var 1) (.int 1))) .nil (.ife (.cmp .Lt (.var 4) (.var 1)) (.tup (.cons (.bin false .Add (.var 4) (.int 1)) (.cons (.int 0) .nil))) .non)))) (.cons (.ret (.tup (.cons (.tup (.cons (.str [103, 105, 118, 101]) (.cons (.var 3) .nil))) (.cons (.tup (.cons (.str [116, 97, 107, 101]) (.cons (.bf1 false .tuple (.lc false [4] (.nm 4) (.rng1 (.bin false .Add (.var 1) (.int 1))) .nil (.ife (.cmp .Gt (.var 4) (.int 0)) (.tup (.cons (.bin false .Sub (.var 4) (.int 1)) (.cons (.int 0) .nil))) .non))) .nil))) .nil)))) .nil)) .nil) (.cons (.ret (.tup (.cons (.tup (.cons (.str [102, 114, 101, 101]) (.cons (.tup (.cons (.tup (.cons (.int 0) (.cons (.int 0) .nil))) (.cons (.tup (.cons (.int 0) (.cons (.int 0) .nil))) .nil))) .nil))) (.cons (.tup (.cons (.str [103, 114, 97, 98]) (.cons (.tup (.cons (.tup (.cons (.int 1) (.cons (.int 0) .nil))) (.cons .non .nil))) .nil))) (.cons (.tup (.cons (.str [116, 114, 121]) (.cons (.tup (.cons (.tup (.cons (.int 1) (.cons (.int 1) .nil))) (.cons (.tup (.cons (.int 1) (.cons (.int 0) .nil))) .nil))) .nil))) .nil))))) .nil)))⟩
/-- _law_asked(which, many, named): which many named e -/
def f__law_asked : FD := ⟨3, 4, false, true, (.cons (.try1 (.cons (.ife (.cmp .Eq (.var 0) (.int 0)) (.cons (.ret (.lst false (.cons (.str [97, 110, 115, 119, 101, 114]) (.cons (.ife (.var 2) (.callK 9 .nil (.cons (.var 1) .nil) [0]) (.call 9 (.cons (.var 1) .nil))) (.cons (.bl true) .nil))))) .nil) .nil) (.cons (.ife (.cmp .Eq (.var 0) (.int 1)) (.cons (.ret (.lst false (.cons (.str [97, 110, 115, 119, 101, 114]) (.cons (.ife (.var 2) (.callK 11 .nil (.cons (.var 1) .nil) [0]) (.call 11 (.cons (.var 1) .nil))) (.cons (.bl true) .nil))))) .nil) .nil) (.cons (.ret (.lst false (.cons (.str [97, 110, 115, 119, 101, 114]) (.cons (.call 10 .nil) (.cons (.bl true) .nil))))) .nil))) 6 3 [.str [110, 117, 109, 98, 101, 114], .att [103, 105, 118, 101, 110], .isE 0]) .nil)⟩
/-- _law_table_right(box, which, many, named): box which many named due table world size name items told waits idle turn row here start thing item step -/
def f__law_table_right : FD := ⟨4, 20, false, true, (.cons (.asg 4 (.call 41 (.cons (.var 1) (.cons (.var 2) .nil)))) (.cons (.ife (.not (.call 38 (.cons (.lst false (.cons (.call 42 (.cons (.var 1) (.cons (.var 2) (.cons (.var 3) .nil)))) (.cons (.call 42 (.cons (.var 1) (.cons (.var 2) (.cons (.not (.var 3)) .nil)))) .nil))) (.cons (.bin false .Mult (.lst false (.cons (.lst false (.cons (.str [97, 110, 115, 119, 101, 114]) (.cons (.var 4) (.cons (.bl true) .nil)))) .nil)) (.int 2)) .nil)))) (.cons (.ret (.bl false)) .nil) .nil) (.cons (.asg 5 (.idx (.call 42 (.cons (.var 1) (.cons (.var 2) (.cons (.var 3) .nil)))) (.int 1))) (.cons (.asgT (.tup (.cons (.nm 6) (.cons (.nm 7) .nil))) (.tup (.cons (.tup (.cons (.tup (.cons (.str [99]) (.cons (.var 5) .nil))) .nil)) (.cons (.bf1 false .len (.idx (.idx (.var 4) (.int 0)) (.int 1))) .nil)))) (.cons (.ife (.disj (.cons (.cmp .IsNot (.call 15 (.cons (.var 5) .nil)) (.bl true)) (.cons (.not (.call 38 (.cons (.call 26 (.cons (.var 6) .nil)) (.cons (.lc false [14] (.nm 14) (.over (.var 4)) .nil (.tup (.cons (.str [99]) (.cons (.idx (.var 14) (.int 0)) .nil)))) .nil)))) .nil))) (.cons (.ret (.bl false)) .nil) .nil) (.cons (.for (.tup (.cons (.nm 8) (.cons (.nm 9) .nil))) (.over (.var 4)) (.cons (.asg 10 (.bf1 false .sorted (.bf1 false .dict (.lc false [18] (.nm 18) (.over (.var 9)) (.cons (.cmp .IsNot (.var 18) .non) .nil) (.tup (.cons (.idx (.var 18) (.int 1)) (.cons (.bl true) .nil))))))) (.cons (.asg 11 (.bf1 false .tuple (.lc false [15] (.nm 15) (.rng1 (.var 7)) (.cons (.cmp .Is (.idx (.var 9) (.var 15)) .non) .nil) (.var 15)))) (.cons (.ife (.not (.call 38 (.cons (.lst false (.cons (.call 18 (.cons (.var 5) (.cons (.var 8) .nil))) (.cons (.call 19 (.cons (.var 5) (.cons (.var 8) .nil))) .nil))) (.cons (.lst false (.cons (.bf1 false .tuple (.var 10)) (.cons (.var 11) .nil))) .nil)))) (.cons (.ret (.bl false)) .nil) .nil) (.cons (.asg 12 (.cmp .Eq (.lc false [15] (.nm 15) (.rng1 (.var 7)) (.cons (.disj (.cons (.cmp .Is (.idx (.var 9) (.var 15)) .non) (.cons (.cmp .NotEq (.idx (.idx (.var 9) (.var 15)) (.int 0)) (.var 15)) .nil))) .nil) (.var 15)) (.lst false .nil))) (.cons (.ife (.not (.call 38 (.cons (.lst false (.cons (.call 21 (.cons (.var 5) (.cons (.var 8) .nil))) (.cons (.call 20 (.cons (.var 5) (.cons (.var 8) .nil))) .nil))) (.cons (.lst false (.cons (.conj (.cons (.var 12) (.cons (.cmp .Eq (.bf1 false .len (.var 10)) (.var 7)) .nil))) (.cons (.conj (.cons (.var 12) (.cons (.cmp .Eq (.bf1 false .len (.var 10)) (.int 1)) .nil))) .nil))) .nil)))) (.cons (.ret (.bl false)) .nil) .nil) .nil)))))) (.cons (.for (.nm 13) (.rng1 (.int 4)) (.cons (.asg 14 (.lc false [19] (.nm 19) (.rng1 (.bin false .Add (.int 1) (.call 36 (.cons (.var 0) (.cons (.int 6) .nil))))) .nil (.tup (.cons (.str [99]) (.cons (.idx (.call 37 (.cons (.var 0) (.cons (.var 4) .nil))) (.int 0)) .nil))))) (.cons (.asgT (.tup (.cons (.nm 15) (.cons (.nm 10) .nil))) (.tup (.cons (.call 36 (.cons (.var 0) (.cons (.var 7) .nil))) (.cons (.tup .nil) .nil)))) (.cons (.asg 16 (.var 15)) (.cons (.for (.tup (.cons (.nm 17) (.cons (.nm 8) .nil))) (.over (.var 14)) (.cons (.asg 18 (.ife (.cmp .IsNot (.var 15) .non) (.idx (.idx (.bf1 false .dict (.var 4)) (.var 8)) (.var 15)) .non)) (.cons (.asgT (.tup (.cons (.nm 15) (.cons (.nm 10) .nil))) (.ife (.cmp .Is (.var 18) .non) (.tup (.cons .non (.cons (.var 10) .nil))) (.tup (.cons (.idx (.var 18) (.int 0)) (.cons (.bin false .Add (.var 10) (.tup (.cons (.idx (.var 18) (.int 1)) .nil))) .nil))))) .nil))) (.cons (.ife (.not (.call 38 (.cons (.call 33 (.cons (.var 6) (.cons (.tup (.cons (.var 16) .nil)) (.cons (.var 14) .nil)))) (.cons (.ife (.cmp .Is (.var 15) .non) .non (.tup (.cons (.tup (.cons (.var 15) .nil)) (.cons (.var 10) .nil)))) .nil)))) (.cons (.ret (.bl false)) .nil) .nil) .nil)))))) (.cons (.ret (.bl true)) .nil))))))))⟩
/-- law(script): script k box named which most many value told -/
def f_law : FD := ⟨1, 9, false, true, (.cons (.for (.nm 1) (.rng1 (.bf2 .max (.int 2) (.bf2 .min (.int 4) (.bf1 false .len (.var 0))))) (.cons (.asg 2 (.call 35 (.cons (.call 34 (.cons (.var 0) (.cons (.var 1) .nil))) .nil))) (.cons (.asg 3 (.cmp .Eq (.call 36 (.cons (.var 2) (.cons (.int 2) .nil))) (.int 0))) (.cons (.for (.tup (.cons (.nm 4) (.cons (.nm 5) .nil))) (.over (.lst false (.cons (.tup (.cons (.int 0) (.cons (.int 4) .nil))) (.cons (.tup (.cons (.int 1) (.cons (.int 5) .nil))) (.cons (.tup (.cons (.int 2) (.cons (.int 1) .nil))) .nil))))) (.cons (.for (.nm 6) (.rng2 (.int 1) (.bin false .Add (.var 5) (.int 1))) (.cons (.ife (.not (.call 43 (.cons (.var 2) (.cons (.var 4) (.cons (.var 6) (.cons (.var 3) .nil)))))) (.cons (.ret (.bl false)) .nil) .nil) (.cons (.asg 3 (.not (.var 3))) .nil))) (.cons (.for (.nm 7) (.over (.ife (.cmp .Lt (.var 4) (.int 2)) (.lst false (.cons (.int 0) (.cons (.bin false .Add (.var 5) (.int 1)) (.cons (.neg (.int 1)) (.cons (.bin false .Pow (.int 10) (.int 19)) (.cons (.bl true) (.cons (.bl false) (.cons .non (.cons (.str [50]) (.cons (.lst false (.cons (.int 2) .nil)) (.cons (.tup (.cons (.int 2) .nil)) (.cons (.dct false) .nil)))))))))))) (.lst false .nil))) (.cons (.asg 7 (.call 39 (.cons (.var 7) .nil))) (.cons (.asg 8 (.call 42 (.cons (.var 4) (.cons (.var 7) (.cons (.var 3) .nil))))) (.cons (.ife (.disj (.cons (.cmp .NotEq (.idx (.var 8) (.int 0)) (.str [110, 117, 109, 98, 101, 114])) (.cons (.cmp .IsNot (.idx (.var 8) (.int 2)) (.bl true)) (.cons (.not (.call 40 (.cons (.idx (.var 8) (.int 1)) (.cons (.var 7) .nil)))) .nil)))) (.cons (.ret (.bl false)) .nil) .nil) (.cons (.asg 3 (.not (.var 3))) .nil))))) .nil))) .nil)))) (.cons (.ret (.bl true)) .nil))⟩
def prog : Prog := ⟨[.str [97, 98, 99, 100, 101, 102, 103, 104, 105, 106, 107, 108, 109, 110, 111, 112, 113, 114, 115, 116, 117, 118, 119, 120, 121, 122], .int (5), .int (6), .int (4), .int (3), .int (36), .int (40)], [[true, false, false, false, false, false, false], [true, true, false, false, false, false, false], [true, false, true, false, false, false, false], [true, false, false, true, false, false, false], [true, false, false, false, true, false, false], [true, false, false, false, false, true, false], [true, false, false, false, false, false, true]], [[], [103, 105, 118, 101, 110], [103, 105, 118, 101, 110], [103, 105, 118, 101, 110], [103, 105, 118, 101, 110], [103, 105, 118, 101, 110], [103, 105, 118, 101, 110]], [f_is_integer, f_is_within, f_is_index, f_is_list, f_is_tuple, f_ascends, f_is_name, f_check_many, f_look_row, f_counter, f_latch, f_stock, f_is_item, f_told_in, f_is_row, f_is_table, f_items_of, f_check_operation, f_told_values, f_waiting, f_is_blank, f_is_look, f_many_of, f_is_world, f_check_world, f_deeds_in, f_deeds, f_is_standing, f_is_deed, f_place_of, f_done, f_check_standing, f_row_done, f_do_row, f__law_cell, f__law_box, f__law_take, f__law_pick, f__law_same, f__law_copy, f__law_very, f__law_due, f__law_asked, f__law_table_right, f_law]⟩
/- 0 is_integer -/
/- 1 is_within -/
/- 2 is_index -/
/- 3 is_list -/
/- 4 is_tuple -/
/- 5 ascends -/
/- 6 is_name -/
/- 7 check_many -/
/- 8 look_row -/
/- 9 counter -/
/- 10 latch -/
/- 11 stock -/
/- 12 is_item -/
/- 13 told_in -/
/- 14 is_row -/
/- 15 is_table -/
/- 16 items_of -/
/- 17 check_operation -/
/- 18 told_values -/
/- 19 waiting -/
/- 20 is_blank -/
/- 21 is_look -/
/- 22 many_of -/
/- 23 is_world -/
/- 24 check_world -/
/- 25 deeds_in -/
/- 26 deeds -/
/- 27 is_standing -/
/- 28 is_deed -/
/- 29 place_of -/
/- 30 done -/
/- 31 check_standing -/
/- 32 row_done -/
/- 33 do_row -/
/- 34 _law_cell -/
/- 35 _law_box -/
/- 36 _law_take -/
/- 37 _law_pick -/
/- 38 _law_same -/
/- 39 _law_copy -/
/- 40 _law_very -/
/- 41 _law_due -/
/- 42 _law_asked -/
/- 43 _law_table_right -/
/- 44 law -/
theorem fn_is_integer : prog.fns[0]? = some f_is_integer := rfl
theorem fn_is_within : prog.fns[1]? = some f_is_within := rfl
theorem fn_is_index : prog.fns[2]? = some f_is_index := rfl
theorem fn_is_list : prog.fns[3]? = some f_is_list := rfl
theorem fn_is_tuple : prog.fns[4]? = some f_is_tuple := rfl
theorem fn_ascends : prog.fns[5]? = some f_ascends := rfl
theorem fn_is_name : prog.fns[6]? = some f_is_name := rfl
theorem fn_check_many : prog.fns[7]? = some f_check_many := rfl
theorem fn_look_row : prog.fns[8]? = some f_look_row := rfl
theorem fn_counter : prog.fns[9]? = some f_counter := rfl
theorem fn_latch : prog.fns[10]? = some f_latch := rfl
theorem fn_stock : prog.fns[11]? = some f_stock := rfl
theorem fn_is_item : prog.fns[12]? = some f_is_item := rfl
theorem fn_told_in : prog.fns[13]? = some f_told_in := rfl
theorem fn_is_row : prog.fns[14]? = some f_is_row := rfl
theorem fn_is_table : prog.fns[15]? = some f_is_table := rfl
theorem fn_items_of : prog.fns[16]? = some f_items_of := rfl
theorem fn_check_operation : prog.fns[17]? = some f_check_operation := rfl
theorem fn_told_values : prog.fns[18]? = some f_told_values := rfl
theorem fn_waiting : prog.fns[19]? = some f_waiting := rfl
theorem fn_is_blank : prog.fns[20]? = some f_is_blank := rfl
theorem fn_is_look : prog.fns[21]? = some f_is_look := rfl
theorem fn_many_of : prog.fns[22]? = some f_many_of := rfl
theorem fn_is_world : prog.fns[23]? = some f_is_world := rfl
theorem fn_check_world : prog.fns[24]? = some f_check_world := rfl
theorem fn_deeds_in : prog.fns[25]? = some f_deeds_in := rfl
theorem fn_deeds : prog.fns[26]? = some f_deeds := rfl
theorem fn_is_standing : prog.fns[27]? = some f_is_standing := rfl
theorem fn_is_deed : prog.fns[28]? = some f_is_deed := rfl
theorem fn_place_of : prog.fns[29]? = some f_place_of := rfl
theorem fn_done : prog.fns[30]? = some f_done := rfl
theorem fn_check_standing : prog.fns[31]? = some f_check_standing := rfl
theorem fn_row_done : prog.fns[32]? = some f_row_done := rfl
theorem fn_do_row : prog.fns[33]? = some f_do_row := rfl
theorem fn__law_cell : prog.fns[34]? = some f__law_cell := rfl
theorem fn__law_box : prog.fns[35]? = some f__law_box := rfl
theorem fn__law_take : prog.fns[36]? = some f__law_take := rfl
theorem fn__law_pick : prog.fns[37]? = some f__law_pick := rfl
theorem fn__law_same : prog.fns[38]? = some f__law_same := rfl
theorem fn__law_copy : prog.fns[39]? = some f__law_copy := rfl
theorem fn__law_very : prog.fns[40]? = some f__law_very := rfl
theorem fn__law_due : prog.fns[41]? = some f__law_due := rfl
theorem fn__law_asked : prog.fns[42]? = some f__law_asked := rfl
theorem fn__law_table_right : prog.fns[43]? = some f__law_table_right := rfl
theorem fn_law : prog.fns[44]? = some f_law := rfl
end K77
end HP
set_option Elab.async false
set_option linter.all false
set_option maxRecDepth 100000
set_option maxHeartbeats 8000000
namespace HP
namespace K77
open PySem PySem.Spec PyProof.Rows L2
def top (i : Nat) : Stmt := PySem.Challenge.pw_holepartner_k77_other_ready_tables.main.body.getD i (.Pass ⟨0, 0, 0, 0⟩)
def i_is_integer : FI := .mk2 "is_integer" ["value"] ["value"] (top 10)
def i_is_within : FI := .mk2 "is_within" ["value", "low", "high"] ["value", "low", "high"] (top 11)
def i_is_index : FI := .mk2 "is_index" ["value", "many"] ["value", "many"] (top 12)
def i_is_list : FI := .mk2 "is_list" ["value"] ["value"] (top 13)
def i_is_tuple : FI := .mk2 "is_tuple" ["value", "many"] ["value", "many"] (top 14)
def i_ascends : FI := .mk2 "ascends" ["items"] ["items", "at"] (top 15)
def i_is_name : FI := .mk2 "is_name" ["value"] ["value", "sign"] (top 16)
def i_check_many : FI := .mk2 "check_many" ["many", "low", "high"] ["many", "low", "high"] (top 18)
def i_look_row : FI := .mk2 "look_row" ["many"] ["many", "here"] (top 19)
def i_counter : FI := .mk2 "counter" ["many"] ["many", "add", "here"] (top 20)
def i_latch : FI := .mk2 "latch" [] ["free", "grab"] (top 21)
def i_stock : FI := .mk2 "stock" ["many"] ["many", "give", "here"] (top 22)
def i_is_item : FI := .mk2 "is_item" ["value", "many"] ["value", "many"] (top 27)
def i_told_in : FI := .mk2 "told_in" ["items"] ["items", "item"] (top 28)
def i_is_row : FI := .mk2 "is_row" ["value", "many"] ["value", "many", "item"] (top 29)
def i_is_table : FI := .mk2 "is_table" ["value"] ["value", "many", "pair", "name", "items"] (top 30)
def i_items_of : FI := .mk2 "items_of" ["table", "operation"] ["table", "operation"] (top 31)
def i_check_operation : FI := .mk2 "check_operation" ["table", "operation"] ["table", "operation"] (top 32)
def i_told_values : FI := .mk2 "told_values" ["table", "operation"] ["table", "operation"] (top 33)
def i_waiting : FI := .mk2 "waiting" ["table", "operation"] ["table", "operation", "items", "here"] (top 34)
def i_is_blank : FI := .mk2 "is_blank" ["table", "operation"] ["table", "operation", "items", "here", "item"] (top 35)
def i_is_look : FI := .mk2 "is_look" ["table", "operation"] ["table", "operation", "items", "here", "item"] (top 36)
def i_many_of : FI := .mk2 "many_of" ["table"] ["table"] (top 41)
def i_is_world : FI := .mk2 "is_world" ["value"] ["value", "count", "name", "table", "thing"] (top 42)
def i_check_world : FI := .mk2 "check_world" ["world"] ["world"] (top 43)
def i_deeds_in : FI := .mk2 "deeds_in" ["world"] ["world", "name", "table", "operation", "items"] (top 44)
def i_deeds : FI := .mk2 "deeds" ["world"] ["world"] (top 45)
def i_is_standing : FI := .mk2 "is_standing" ["world", "value"] ["world", "value", "here", "name", "table"] (top 46)
def i_is_deed : FI := .mk2 "is_deed" ["world", "value"] ["world", "value"] (top 47)
def i_place_of : FI := .mk2 "place_of" ["world", "thing"] ["world", "thing", "name", "table"] (top 48)
def i_done : FI := .mk2 "done" ["world", "standing", "deed"] ["world", "standing", "deed", "at", "item"] (top 49)
def i_check_standing : FI := .mk2 "check_standing" ["world", "standing"] ["world", "standing"] (top 50)
def i_row_done : FI := .mk2 "row_done" ["world", "standing", "row"] ["world", "standing", "row", "told", "deed", "behind"] (top 51)
def i_do_row : FI := .mk2 "do_row" ["world", "standing", "row"] ["world", "standing", "row", "deed"] (top 52)
def i__law_cell : FI := .mk2 "_law_cell" ["script", "k"] ["script", "k"] (top 54)
def i__law_box : FI := .mk2 "_law_box" ["great"] ["great"] (top 55)
def i__law_take : FI := .mk2 "_law_take" ["box", "many"] ["box", "many", "digit", "mixed"] (top 56)
def i__law_pick : FI := .mk2 "_law_pick" ["box", "items"] ["box", "items"] (top 57)
def i__law_same : FI := .mk2 "_law_same" ["given", "due"] ["given", "due", "key", "k"] (top 58)
def i__law_copy : FI := .mk2 "_law_copy" ["value"] ["value", "item", "key"] (top 59)
def i__law_very : FI := .mk2 "_law_very" ["given", "value"] ["given", "value"] (top 60)
def i__law_due : FI := .mk2 "_law_due" ["which", "many"] ["which", "many", "rows", "give", "here"] (top 61)
def i__law_asked : FI := .mk2 "_law_asked" ["which", "many", "named"] ["which", "many", "named", "e"] (top 62)
def i__law_table_right : FI := .mk2 "_law_table_right" ["box", "which", "many", "named"] ["box", "which", "many", "named", "due", "table", "world", "size", "name", "items", "told", "waits", "idle", "turn", "row", "here", "start", "thing", "item", "step"] (top 63)
def i_law : FI := .mk2 "law" ["script"] ["script", "k", "box", "named", "which", "most", "many", "value", "told"] (top 64)
def infos : List FI := [i_is_integer, i_is_within, i_is_index, i_is_list, i_is_tuple, i_ascends, i_is_name, i_check_many, i_look_row, i_counter, i_latch, i_stock, i_is_item, i_told_in, i_is_row, i_is_table, i_items_of, i_check_operation, i_told_values, i_waiting, i_is_blank, i_is_look, i_many_of, i_is_world, i_check_world, i_deeds_in, i_deeds, i_is_standing, i_is_deed, i_place_of, i_done, i_check_standing, i_row_done, i_do_row, i__law_cell, i__law_box, i__law_take, i__law_pick, i__law_same, i__law_copy, i__law_very, i__law_due, i__law_asked, i__law_table_right, i_law]
def cls : List (Str × Option CI) := [("HoleError", none), ("InvalidTable", some (.mk2 "InvalidTable" "HoleError" (clsFst (top 2)))), ("InvalidOperation", some (.mk2 "InvalidOperation" "HoleError" (clsFst (top 3)))), ("InvalidWorld", some (.mk2 "InvalidWorld" "HoleError" (clsFst (top 4)))), ("InvalidStanding", some (.mk2 "InvalidStanding" "HoleError" (clsFst (top 5)))), ("InvalidRow", some (.mk2 "InvalidRow" "HoleError" (clsFst (top 6)))), ("InvalidNumber", some (.mk2 "InvalidNumber" "HoleError" (clsFst (top 7))))]
def gls : List (Str × PV) := [("LETTERS", .str [97, 98, 99, 100, 101, 102, 103, 104, 105, 106, 107, 108, 109, 110, 111, 112, 113, 114, 115, 116, 117, 118, 119, 120, 121, 122]), ("MOST_OPERATIONS", .int (5)), ("MOST_STANDINGS_tables", .int (6)), ("MOST_TOLD", .int (4)), ("MOST_THINGS", .int (3)), ("MOST_STANDINGS_worlds", .int (36)), ("MOST_ROW", .int (40))]
def kwl : List (Nat × Nat × List Str × List Nat) := [(9, 0, ["many"], [0]), (11, 0, ["many"], [0])]
def src : Src := mkSrc prog infos cls gls kwl
theorem b_is_integer : BdP i_is_integer := fun _ _ _ _ _ _ us hl => match us, hl with | [_], _ => rfl
theorem b_is_within : BdP i_is_within := fun _ _ _ _ _ _ us hl => match us, hl with | [_, _, _], _ => rfl
theorem b_is_index : BdP i_is_index := fun _ _ _ _ _ _ us hl => match us, hl with | [_, _], _ => rfl
theorem b_is_list : BdP i_is_list := fun _ _ _ _ _ _ us hl => match us, hl with | [_], _ => rfl
theorem b_is_tuple : BdP i_is_tuple := fun _ _ _ _ _ _ us hl => match us, hl with | [_, _], _ => rfl
theorem b_ascends : BdP i_ascends := fun _ _ _ _ _ _ us hl => match us, hl with | [_], _ => rfl
theorem b_is_name : BdP i_is_name := fun _ _ _ _ _ _ us hl => match us, hl with | [_], _ => rfl
theorem b_check_many : BdP i_check_many := fun _ _ _ _ _ _ us hl => match us, hl with | [_, _, _], _ => rfl
theorem b_look_row : BdP i_look_row := fun _ _ _ _ _ _ us hl => match us, hl with | [_], _ => rfl
theorem b_counter : BdP i_counter := fun _ _ _ _ _ _ us hl => match us, hl with | [_], _ => rfl
theorem b_latch : BdP i_latch := fun _ _ _ _ _ _ us hl => match us, hl with | [], _ => rfl
theorem b_stock : BdP i_stock := fun _ _ _ _ _ _ us hl => match us, hl with | [_], _ => rfl
theorem b_is_item : BdP i_is_item := fun _ _ _ _ _ _ us hl => match us, hl with | [_, _], _ => rfl
theorem b_told_in : BdP i_told_in := fun _ _ _ _ _ _ us hl => match us, hl with | [_], _ => rfl
theorem b_is_row : BdP i_is_row := fun _ _ _ _ _ _ us hl => match us, hl with | [_, _], _ => rfl
theorem b_is_table : BdP i_is_table := fun _ _ _ _ _ _ us hl => match us, hl with | [_], _ => rfl
theorem b_items_of : BdP i_items_of := fun _ _ _ _ _ _ us hl => match us, hl with | [_, _], _ => rfl
theorem b_check_operation : BdP i_check_operation := fun _ _ _ _ _ _ us hl => match us, hl with | [_, _], _ => rfl
theorem b_told_values : BdP i_told_values := fun _ _ _ _ _ _ us hl => match us, hl with | [_, _], _ => rfl
theorem b_waiting : BdP i_waiting := fun _ _ _ _ _ _ us hl => match us, hl with | [_, _], _ => rfl
theorem b_is_blank : BdP i_is_blank := fun _ _ _ _ _ _ us hl => match us, hl with | [_, _], _ => rfl
theorem b_is_look : BdP i_is_look := fun _ _ _ _ _ _ us hl => match us, hl with | [_, _], _ => rfl
theorem b_many_of : BdP i_many_of := fun _ _ _ _ _ _ us hl => match us, hl with | [_], _ => rfl
theorem b_is_world : BdP i_is_world := fun _ _ _ _ _ _ us hl => match us, hl with | [_], _ => rfl
theorem b_check_world : BdP i_check_world := fun _ _ _ _ _ _ us hl => match us, hl with | [_], _ => rfl
theorem b_deeds_in : BdP i_deeds_in := fun _ _ _ _ _ _ us hl => match us, hl with | [_], _ => rfl
theorem b_deeds : BdP i_deeds := fun _ _ _ _ _ _ us hl => match us, hl with | [_], _ => rfl
theorem b_is_standing : BdP i_is_standing := fun _ _ _ _ _ _ us hl => match us, hl with | [_, _], _ => rfl
theorem b_is_deed : BdP i_is_deed := fun _ _ _ _ _ _ us hl => match us, hl with | [_, _], _ => rfl
theorem b_place_of : BdP i_place_of := fun _ _ _ _ _ _ us hl => match us, hl with | [_, _], _ => rfl
theorem b_done : BdP i_done := fun _ _ _ _ _ _ us hl => match us, hl with | [_, _, _], _ => rfl
theorem b_check_standing : BdP i_check_standing := fun _ _ _ _ _ _ us hl => match us, hl with | [_, _], _ => rfl
theorem b_row_done : BdP i_row_done := fun _ _ _ _ _ _ us hl => match us, hl with | [_, _, _], _ => rfl
theorem b_do_row : BdP i_do_row := fun _ _ _ _ _ _ us hl => match us, hl with | [_, _, _], _ => rfl
theorem b__law_cell : BdP i__law_cell := fun _ _ _ _ _ _ us hl => match us, hl with | [_, _], _ => rfl
theorem b__law_box : BdP i__law_box := fun _ _ _ _ _ _ us hl => match us, hl with | [_], _ => rfl
theorem b__law_take : BdP i__law_take := fun _ _ _ _ _ _ us hl => match us, hl with | [_, _], _ => rfl
theorem b__law_pick : BdP i__law_pick := fun _ _ _ _ _ _ us hl => match us, hl with | [_, _], _ => rfl
theorem b__law_same : BdP i__law_same := fun _ _ _ _ _ _ us hl => match us, hl with | [_, _], _ => rfl
theorem b__law_copy : BdP i__law_copy := fun _ _ _ _ _ _ us hl => match us, hl with | [_], _ => rfl
theorem b__law_very : BdP i__law_very := fun _ _ _ _ _ _ us hl => match us, hl with | [_, _], _ => rfl
theorem b__law_due : BdP i__law_due := fun _ _ _ _ _ _ us hl => match us, hl with | [_, _], _ => rfl
theorem b__law_asked : BdP i__law_asked := fun _ _ _ _ _ _ us hl => match us, hl with | [_, _, _], _ => rfl
theorem b__law_table_right : BdP i__law_table_right := fun _ _ _ _ _ _ us hl => match us, hl with | [_, _, _, _], _ => rfl
theorem b_law : BdP i_law := fun _ _ _ _ _ _ us hl => match us, hl with | [_], _ => rfl
theorem bds : AllP BdP infos := ⟨b_is_integer, b_is_within, b_is_index, b_is_list, b_is_tuple, b_ascends, b_is_name, b_check_many, b_look_row, b_counter, b_latch, b_stock, b_is_item, b_told_in, b_is_row, b_is_table, b_items_of, b_check_operation, b_told_values, b_waiting, b_is_blank, b_is_look, b_many_of, b_is_world, b_check_world, b_deeds_in, b_deeds, b_is_standing, b_is_deed, b_place_of, b_done, b_check_standing, b_row_done, b_do_row, b__law_cell, b__law_box, b__law_take, b__law_pick, b__law_same, b__law_copy, b__law_very, b__law_due, b__law_asked, b__law_table_right, b_law, True.intro⟩
theorem bis : AllP BiP (cls.filterMap (·.2)) := ⟨fun _ _ _ _ _ _ us hl => match us, hl with | [_, _], _ => rfl, fun _ _ _ _ _ _ us hl => match us, hl with | [_, _], _ => rfl, fun _ _ _ _ _ _ us hl => match us, hl with | [_, _], _ => rfl, fun _ _ _ _ _ _ us hl => match us, hl with | [_, _], _ => rfl, fun _ _ _ _ _ _ us hl => match us, hl with | [_, _], _ => rfl, fun _ _ _ _ _ _ us hl => match us, hl with | [_, _], _ => rfl, True.intro⟩
theorem kwp : AllP (KwP infos) kwl := ⟨⟨_, rfl, fun _ _ _ _ _ _ us ws h1 h2 => match us, ws, h1, h2 with | [], [_], _, _ => rfl, by decide⟩, ⟨_, rfl, fun _ _ _ _ _ _ us ws h1 h2 => match us, ws, h1, h2 with | [], [_], _, _ => rfl, by decide⟩, True.intro⟩
theorem stB : statB src = true := by decide +kernel
theorem stat : Stat src := stat_of rfl stB bds bis kwp
end K77
end HP
set_option Elab.async false
set_option linter.all false
set_option maxRecDepth 100000
set_option maxHeartbeats 2000000
namespace HP
namespace K77
open PySem PySem.Spec PyProof.Rows L2
def boxOk (m : Option MO) (e : Int) : Prop := ∃ a b c, m = some (.lst [.int a, .bl b, .int c, .int e]) ∧ 0 ≤ c ∧ c < 2147483629
theorem evSetx {n : Nat} {μ : Mem} {xs : List PV} (h : μ[n]? = some (.lst xs)) {i : Int} {j : Nat} (hj : ixN xs.length i = some j) (x : PV) : setQ (.ref n) (.int i) x μ = some (μ.set n (.lst (xs.set j x))) := by
  simp only [setQ, h, hj]
theorem idx_box {n : Nat} {μ : Mem} {xs : List PV} (h : μ[n]? = some (.lst xs)) {i : Int} {x : PV} (hx : atI xs i = some x) : idxq (.ref n) (.int i) μ = some x := by
  simp only [idxq, sqR, lsR, lsOf, h, hx]
theorem take_ok (d n : Nat) (μ : Mem) (e m : Int) (h : boxOk μ[n]? e) (he : 0 ≤ e ∧ e < 1000) (hm : 0 < m ∧ m < 100) : ∃ x e' bx, 0 ≤ x ∧ x < m ∧ 0 ≤ e' ∧ e' ≤ e + 1 ∧ boxOk (some bx) e' ∧ run prog (d + 1) 36 [.ref n, .int m] μ = .ok (.int x) (μ.set n bx) := by
  obtain ⟨a, b, c, hb, hc⟩ := h
  have hlt : n < μ.length := (List.getElem?_eq_some_iff.mp hb).1
  have i0 := idx_box hb (i := 0) (x := .int a) rfl
  have i1 := idx_box hb (i := 1) (x := .bl b) rfl
  have i3 := idx_box hb (i := 3) (x := .int e) rfl
  have s0 := fun x => evSetx hb (i := 0) (j := 0) rfl x
  have s3 := fun x => evSetx hb (i := 3) (j := 3) rfl x
  have hm0 : decide (0 < m) = true := decide_eq_true hm.1
  have hm1 : decide (m < 1073741824) = true := decide_eq_true (by omega)
  have cut : ∀ p (μ' : Mem), μ'.length = μ.length → cutR μ.length (.ok p μ') = .ok p μ' := fun p μ' hl => by simp only [cutR, hl, Nat.beq_refl, if_true]
  by_cases hd : b = true ∧ 0 < a
  · obtain ⟨rfl, ha⟩ := hd
    refine ⟨a % m, e, .lst [.int (a / m), .bl true, .int c, .int e], Int.emod_nonneg _ (by omega), Int.emod_lt_of_pos _ hm.1, he.1, by omega, ⟨_, _, _, rfl, hc⟩, ?_⟩
    have hg : decide (0 < a) = true := decide_eq_true ha
    simp only [run, fn__law_take, f__law_take, noRefs, noRef, Bool.and_false, Bool.false_and, bodyR, st0, List.map, List.length, Nat.beq, if_true, Bool.false_eq_true, if_false, evSL, evS, evE, evAnd, R.bind, R.opt, List.replicate, List.append, HAppend.hAppend, Append.append, Nat.sub, List.getElem?_cons_zero, List.getElem?_cons_succ, i0, i1, okB, cmpq, ltq, hg, Fl.fl, R.fl, bf1, okI, intQ, bin, binI, hm0, hm1, Bool.and_self, s0, List.set, Fl.fin]
    exact cut _ _ List.length_set
  · have hg : (b && decide (0 < a)) = false := by
      cases b with
      | false => rfl
      | true => simpa using fun h => hd ⟨rfl, h⟩
    obtain ⟨μ', hμ'⟩ : ∃ μ', μ.set n (.lst [.int a, .bl b, .int c, .int (e + 1)]) = μ' := ⟨_, rfl⟩
    have hb' : μ'[n]? = some (.lst [.int a, .bl b, .int c, .int (e + 1)]) := by rw [← hμ', List.getElem?_set_self hlt]
    have hl' : μ'.length = μ.length := by rw [← hμ', List.length_set]
    have j2 := idx_box hb' (i := 2) (x := .int c) rfl
    have j3 := idx_box hb' (i := 3) (x := .int (e + 1)) rfl
    obtain ⟨mx, hmx⟩ : ∃ mx : Int, (c + 15485917 * (e + 1) + 179424779) ^ (5 : Int).toNat % 2147483647 = mx := ⟨_, rfl⟩
    have hx0 : 0 ≤ mx := by rw [← hmx]; exact Int.emod_nonneg _ (by decide)
    have hx1 : mx < 2147483647 := by rw [← hmx]; exact Int.emod_lt_of_pos _ (by decide)
    obtain ⟨z, hz⟩ : ∃ z : Int, (mx * 48271 + 104801 * (e + 1)) ^ (3 : Int).toNat % 2147483587 / 64 = z := ⟨_, rfl⟩
    have k1 : okMul 15485917 (e + 1) = true := by simp [okMul, p64]
    have k2 : decide ((c + 15485917 * (e + 1) + 179424779).natAbs < 18446744073709551616) = true := decide_eq_true (by omega)
    have k3 : okMul mx 48271 = true := by simp [okMul, p64]
    have k4 : okMul 104801 (e + 1) = true := by simp [okMul, p64]
    have k5 : decide ((mx * 48271 + 104801 * (e + 1)).natAbs < 18446744073709551616) = true := decide_eq_true (by omega)
    have l1 : decide ((0 : Int) ≤ 5) = true := rfl
    have l2 : decide ((5 : Int) ≤ 1000000) = true := rfl
    have l3 : decide ((0 : Int) ≤ 3) = true := rfl
    have l4 : decide ((3 : Int) ≤ 1000000) = true := rfl
    have l5 : decide ((0 : Int) < 2147483647) = true := rfl
    have l6 : decide ((0 : Int) < 2147483587) = true := rfl
    have l7 : decide ((0 : Int) < 64) = true := rfl
    have l8 : decide ((64 : Int) < 1073741824) = true := rfl
    have key : ∀ F G sub att, evSL G sub att F f__law_take.body (st0 f__law_take.nn [.ref n, .int m]) μ = .rt (.int (z % m)) μ' := fun F G sub att => by
      have test : (evAnd G F (.cons (.idx (.var 0) (.int 1)) (.cons (.cmp .Gt (.idx (.var 0) (.int 0)) (.int 0)) .nil)) (st0 f__law_take.nn [.ref n, .int m]) μ) = .ok (.bl false) μ := by
        cases b with
        | false => simp only [f__law_take, st0, evAnd, evE, R.bind, R.opt, List.map, List.length, List.append, HAppend.hAppend, Append.append, List.getElem?_cons_zero, i1]
        | true =>
          have hg : decide (0 < a) = false := hg
          simp only [f__law_take, st0, evAnd, evE, R.bind, R.opt, List.map, List.length, List.append, HAppend.hAppend, Append.append, List.getElem?_cons_zero, i0, i1, okB, cmpq, ltq, hg]
      show (((evAnd G F (.cons (.idx (.var 0) (.int 1)) (.cons (.cmp .Gt (.idx (.var 0) (.int 0)) (.int 0)) .nil)) (st0 f__law_take.nn [.ref n, .int m]) μ).fl _).fl _) = _
      rw [test]
      simp only [f__law_take, st0, List.map, List.length, List.replicate, List.append, HAppend.hAppend, Append.append, Nat.sub, R.fl, Fl.fl, evSL, evS, evE, R.bind, R.opt, List.getElem?_cons_zero, List.getElem?_cons_succ, i3, bin, binI, s3, List.set]
      rw [hμ']
      simp only [List.getElem?_cons_zero, List.getElem?_cons_succ, j2, j3, k1, k2, k3, k4, k5, l1, l2, l3, l4, l5, l6, l7, l8, hm0, hm1, hmx, hz, if_true, Bool.and_self, bf1, okI, intQ]
    refine ⟨z % m, e + 1, .lst [.int a, .bl b, .int c, .int (e + 1)], Int.emod_nonneg _ (by omega), Int.emod_lt_of_pos _ hm.1, by omega, by omega, ⟨_, _, _, rfl, hc⟩, ?_⟩
    rw [hμ']
    have z := key (run prog d) prog.G prog.isSub prog.att
    simp only [run, fn__law_take, noRefs, noRef, Bool.and_false, Bool.false_and, bodyR, Bool.false_eq_true, if_false, z, Fl.fin, cut _ _ hl']
    rfl
theorem box_ok (d : Nat) (g : Int) (μ : Mem) : ∃ bx, boxOk (some bx) 0 ∧ run prog (d + 1) 35 [.int g] μ = .ok (.ref μ.length) (μ ++ [bx]) := by
  refine ⟨.lst [.int (if g < 0 then -g else g), .bl (decide ((10 : Int) ^ (18 : Int).toNat ≤ (if g < 0 then -g else g))), .int ((if g < 0 then -g else g) % 2147483629), .int 0], ⟨_, _, _, rfl, Int.emod_nonneg _ (by decide), Int.emod_lt_of_pos _ (by decide)⟩, ?_⟩
  rw [run_keep (σ := [some (.int g)]) fn__law_box rfl rfl rfl rfl]
  rfl
theorem cell_ok (d k : Nat) (ns : List Int) (μ : Mem) : ∃ g, run prog (d + 1) 34 [.scr ns, .int (Int.ofNat k)] μ = .ok (.int g) μ := by
  have l4 : decide ((0 : Int) < 1000033) = true := rfl
  have k1 : okMul 7213 (Int.ofNat k) = true := by simp [okMul, p64]
  by_cases h : k < ns.length
  · have e : decide (Int.ofNat k < Int.ofNat (ns.map PV.int).length) = true := decide_eq_true (by simpa using h)
    have ea : L2.atI (ns.map PV.int) (Int.ofNat k) = some (.int ns[k]) := by
      rw [atI_nat (by simpa using h)]; simp
    refine ⟨ns[k], run_pure (σ := [some (.scr ns), some (.int (Int.ofNat k))]) fn__law_cell rfl rfl rfl rfl ?_⟩
    simp only [f__law_cell, evSL, evS, evE, R.bind, R.opt, List.getElem?_cons_zero, List.getElem?_cons_succ, bf1, lenQ, sqR, lsR, okI, okB, cmpq, ltq, e, idxq, ea, R.fl, Fl.fl]
  · have e : decide (Int.ofNat k < Int.ofNat (ns.map PV.int).length) = false := decide_eq_false (by simpa using h)
    refine ⟨7213 * Int.ofNat k + (cutP ns none (some 1)).sum % 1000033, run_pure (σ := [some (.scr ns), some (.int (Int.ofNat k))]) fn__law_cell rfl rfl rfl rfl ?_⟩
    have ec : cutP (ns.map PV.int) none (some 1) = (cutP ns none (some 1)).map PV.int := by
      simp only [cutP, List.length_map, List.map_take, List.map_drop]
    simp only [f__law_cell, evSL, evS, evE, evPt, R.bind, R.opt, List.getElem?_cons_zero, List.getElem?_cons_succ, bf1, lenQ, sqR, lsR, okI, okB, cmpq, ltq, e, slcq, ec, newL, sumQ, lsOf, Option.bind, asInts_im, Option.map, intQ, bin, binI, k1, l4, if_true, Bool.false_eq_true, if_false, R.fl, Fl.fl]
end K77
end HP
set_option Elab.async false
set_option linter.all false
set_option maxRecDepth 10000
set_option maxHeartbeats 1000000
namespace HP
namespace K77
open PySem PySem.Spec PyProof.Rows L2
/-- a value that the law may compare with itself -/
def okV (μ : Mem) : Nat → PV → Bool
  | _, .non => true
  | _, .bl _ => true
  | _, .int _ => true
  | _, .str _ => true
  | k + 1, .tup xs => Nat.blt xs.length 1000000 && xs.all (okV μ k)
  | k + 1, .lst xs => Nat.blt xs.length 1000000 && xs.all (okV μ k)
  | k + 1, .ref n => match μ[n]? with
    | some (.lst xs) => Nat.blt xs.length 1000000 && xs.all (okV μ k)
    | _ => false
  | _, _ => false
theorem okV_bare (μ μ' : Mem) : ∀ (k : Nat) (p : PV), okV μ k p = true → noRef p = true → okV μ' k p = true := by
  intro k
  induction k with
  | zero => intro p h n; cases p <;> simp_all [okV]
  | succ k ih =>
    have all : ∀ xs : List PV, xs.all (okV μ k) = true → noRefs xs = true → xs.all (okV μ' k) = true := by
      intro xs h n
      induction xs with
      | nil => rfl
      | cons x r ihr =>
        simp only [List.all_cons, Bool.and_eq_true, noRefs] at h n ⊢
        exact ⟨ih x h.1 n.1, ihr h.2 n.2⟩
    intro p h n
    cases p with
    | tup xs => simp only [okV, Bool.and_eq_true, noRef] at h n ⊢; exact ⟨h.1, all xs h.2 n⟩
    | lst xs => simp only [okV, Bool.and_eq_true, noRef] at h n ⊢; exact ⟨h.1, all xs h.2 n⟩
    | ref i => cases n
    | dct _ => simp [okV] at h
    | scr _ => simp [okV] at h
    | _ => simp [okV]
theorem same_seq {G : List PV} {sub : Nat → Nat → Option Bool} {att : Nat → List Nat} {F : Nat → List PV → Mem → R PV} {p : PV} {μ : Mem} {xs : List PV} (hx : sqR μ p = some xs) (hk : kindP μ p = 4 ∨ kindP μ p = 5) (hl : xs.length < 1000000) (ih : ∀ x ∈ xs, F 38 [x, x] μ = .ok (.bl true) μ) :
    evSL G sub att F f__law_same.body [some p, some p, none, none] μ = .rt (.bl true) μ := by
  have hnon : isNon p = false := by cases p <;> first | rfl | (simp [sqR, lsR, lsOf] at hx)
  have hlen : lenQ p μ = some (Int.ofNat xs.length) := by
    unfold lenQ
    split
    · simp [sqR, lsR, lsOf] at hx
    · simp only [hx]
  have hb1 : ∀ t, kindIs (kindP μ p) t = (match t with | .tup => kindP μ p == 4 | .lst => kindP μ p == 5 | _ => false) := by
    rcases hk with hk | hk <;> (intro t; rw [hk]; cases t <;> rfl)
  have hlst : (kindP μ p == 5 || kindP μ p == 4) = true := by rcases hk with hk | hk <;> (rw [hk]; rfl)
  have hr : rngOk (Int.ofNat xs.length) = true := by
    simp only [rngOk, Bool.and_eq_true, decide_eq_true_eq, Int.ofNat_eq_natCast]; omega
  have hidx : ∀ i : Nat, i < xs.length → ∃ x, x ∈ xs ∧ idxq p (.int (Int.ofNat i)) μ = some x := fun i hi => by
    refine ⟨xs[i], List.getElem_mem hi, ?_⟩
    have e := atI_nat hi
    cases p <;> first | (simp [sqR, lsR, lsOf] at hx; done) | (simp only [idxq, hx, e])
  simp only [f__law_same, r_var, k_var, r_gl, r_non, r_bl, r_int, r_str, o_Bin2, x_Bin2, o_Bin, x_Bin, r_bin, o_Cmp2, x_Cmp2, o_Cmp, x_Cmp, r_cmp, o_Chn4, x_Chn4, o_Chn3, o_Chn2, o_Chn, x_Chn, r_chn, r_conj, r_disj, o_And, o_Or, r_And1, r_And2, r_And3, r_Or1, r_Or2, r_Or3, o_Not, r_not, o_Neg, r_neg, o_Ife, r_ife, o_Idx2, x_Idx2, o_Idx, x_Idx, r_idx, o_Slc3, o_Slc2, o_Slc, r_slc, r_pt0, o_Pt, r_pt1, o_EL2, o_EL, x_EL, x_EL2, r_nil, r_cons, o_St2, o_St1, o_St, r_star, o_Tup, x_Tup, o_Lst, x_Lst, r_tup, r_lst, r_dct, o_Bf1, x_Bf1, r_bf1, o_Bf22, x_Bf22, o_Bf2, x_Bf2, r_bf2, o_IsT, x_IsT, r_isT, o_Call, x_Call, r_call, o_CK2, o_CK, r_callK, o_Mth2, o_Mth1, o_Mth, r_mth, o_Turn2, o_Turn, o_Lc3, o_Lc2, r_lc_rng1, r_lc_rng2, r_lc_enu, r_lc_zip, r_all0, o_All, r_all1, o_Over, r_over, o_Rng1, r_rng1, o_Rng22, o_Rng2, r_rng2, r_sl0, r_sl, o_Seq, o_SeqR, o_SeqX, o_SeqC, o_Asg, x_Asg, r_asg, o_AT2, o_AT, r_asgT, o_Ret, x_Ret, r_ret, o_Expr, x_Expr, r_expr, o_Raise, r_raise, o_If, x_If, r_if, o_For, r_for, o_Sx3, o_Sx2, o_Sx, r_setx, r_doc, m_and, m_or, opt_some, okB_some, okI_some, newL_f, ofNat_toNat, map_some, List.getElem?_cons_zero, List.getElem?_cons_succ, List.set, bf1, Nat.reduceBEq, Bool.or_false, Bool.false_or, Bool.or_true, Bool.true_or, Bool.not_true, Bool.not_false, Bool.and_true, Bool.true_and, Bool.and_false, Bool.false_and, cond_true, cond_false, List.length_nil, List.length_cons, Nat.zero_add, Nat.reduceAdd, ble_zero, bg1, bg2, bg3, bg4, bg5, bg6, bg7, bg8, bg9, bg10, bg11, bg12, bg13, bg14, bg15, cmpq, isq_non, hnon, isT_one, isT_two, hb1, hlst, hlen, hr, eqq_bl, eqq_int, beq_self_eq_true, List.length_nil, ble_zero]
  rw [lc_rng0 (fun _ => none) (by omega) (fun i hi => by
    obtain ⟨x, hm, he⟩ := hidx i hi
    rw [turn_eq (σ' := [some p, some p, none, some (.int (Int.ofNat i))]) rfl]
    simp only [r_var, k_var, r_gl, r_non, r_bl, r_int, r_str, o_Bin2, x_Bin2, o_Bin, x_Bin, r_bin, o_Cmp2, x_Cmp2, o_Cmp, x_Cmp, r_cmp, o_Chn4, x_Chn4, o_Chn3, o_Chn2, o_Chn, x_Chn, r_chn, r_conj, r_disj, o_And, o_Or, r_And1, r_And2, r_And3, r_Or1, r_Or2, r_Or3, o_Not, r_not, o_Neg, r_neg, o_Ife, r_ife, o_Idx2, x_Idx2, o_Idx, x_Idx, r_idx, o_Slc3, o_Slc2, o_Slc, r_slc, r_pt0, o_Pt, r_pt1, o_EL2, o_EL, x_EL, x_EL2, r_nil, r_cons, o_St2, o_St1, o_St, r_star, o_Tup, x_Tup, o_Lst, x_Lst, r_tup, r_lst, r_dct, o_Bf1, x_Bf1, r_bf1, o_Bf22, x_Bf22, o_Bf2, x_Bf2, r_bf2, o_IsT, x_IsT, r_isT, o_Call, x_Call, r_call, o_CK2, o_CK, r_callK, o_Mth2, o_Mth1, o_Mth, r_mth, o_Turn2, o_Turn, o_Lc3, o_Lc2, r_lc_rng1, r_lc_rng2, r_lc_enu, r_lc_zip, r_all0, o_All, r_all1, o_Over, r_over, o_Rng1, r_rng1, o_Rng22, o_Rng2, r_rng2, r_sl0, r_sl, o_Seq, o_SeqR, o_SeqX, o_SeqC, o_Asg, x_Asg, r_asg, o_AT2, o_AT, r_asgT, o_Ret, x_Ret, r_ret, o_Expr, x_Expr, r_expr, o_Raise, r_raise, o_If, x_If, r_if, o_For, r_for, o_Sx3, o_Sx2, o_Sx, r_setx, r_doc, m_and, m_or, opt_some, okB_some, okI_some, newL_f, ofNat_toNat, map_some, List.getElem?_cons_zero, List.getElem?_cons_succ, List.set, bf1, Nat.reduceBEq, Bool.or_false, Bool.false_or, Bool.or_true, Bool.true_or, Bool.not_true, Bool.not_false, Bool.and_true, Bool.true_and, Bool.and_false, Bool.false_and, cond_true, cond_false, List.length_nil, List.length_cons, Nat.zero_add, Nat.reduceAdd, ble_zero, bg1, bg2, bg3, bg4, bg5, bg6, bg7, bg8, bg9, bg10, bg11, bg12, bg13, bg14, bg15, he, ih x hm])]
  simp only [r_var, k_var, r_gl, r_non, r_bl, r_int, r_str, o_Bin2, x_Bin2, o_Bin, x_Bin, r_bin, o_Cmp2, x_Cmp2, o_Cmp, x_Cmp, r_cmp, o_Chn4, x_Chn4, o_Chn3, o_Chn2, o_Chn, x_Chn, r_chn, r_conj, r_disj, o_And, o_Or, r_And1, r_And2, r_And3, r_Or1, r_Or2, r_Or3, o_Not, r_not, o_Neg, r_neg, o_Ife, r_ife, o_Idx2, x_Idx2, o_Idx, x_Idx, r_idx, o_Slc3, o_Slc2, o_Slc, r_slc, r_pt0, o_Pt, r_pt1, o_EL2, o_EL, x_EL, x_EL2, r_nil, r_cons, o_St2, o_St1, o_St, r_star, o_Tup, x_Tup, o_Lst, x_Lst, r_tup, r_lst, r_dct, o_Bf1, x_Bf1, r_bf1, o_Bf22, x_Bf22, o_Bf2, x_Bf2, r_bf2, o_IsT, x_IsT, r_isT, o_Call, x_Call, r_call, o_CK2, o_CK, r_callK, o_Mth2, o_Mth1, o_Mth, r_mth, o_Turn2, o_Turn, o_Lc3, o_Lc2, r_lc_rng1, r_lc_rng2, r_lc_enu, r_lc_zip, r_all0, o_All, r_all1, o_Over, r_over, o_Rng1, r_rng1, o_Rng22, o_Rng2, r_rng2, r_sl0, r_sl, o_Seq, o_SeqR, o_SeqX, o_SeqC, o_Asg, x_Asg, r_asg, o_AT2, o_AT, r_asgT, o_Ret, x_Ret, r_ret, o_Expr, x_Expr, r_expr, o_Raise, r_raise, o_If, x_If, r_if, o_For, r_for, o_Sx3, o_Sx2, o_Sx, r_setx, r_doc, m_and, m_or, opt_some, okB_some, okI_some, newL_f, ofNat_toNat, map_some, List.getElem?_cons_zero, List.getElem?_cons_succ, List.set, bf1, Nat.reduceBEq, Bool.or_false, Bool.false_or, Bool.or_true, Bool.true_or, Bool.not_true, Bool.not_false, Bool.and_true, Bool.true_and, Bool.and_false, Bool.false_and, cond_true, cond_false, List.length_nil, List.length_cons, Nat.zero_add, Nat.reduceAdd, ble_zero, bg1, bg2, bg3, bg4, bg5, bg6, bg7, bg8, bg9, bg10, bg11, bg12, bg13, bg14, bg15, fm_none, cmpq, eqq_nil]
theorem run_same {d : Nat} {p : PV} {μ : Mem} (e : ∀ μ', (noRef p = true ∨ μ' = μ) → evSL prog.G prog.isSub prog.att (run prog d) f__law_same.body [some p, some p, none, none] μ' = .rt (.bl true) μ') : run prog (d + 1) 38 [p, p] μ = .ok (.bl true) μ := by
  cases h : noRef p with
  | true =>
    have hp : (f__law_same.pure && noRefs [p, p]) = true := by simp only [noRefs, h, Bool.and_self]; rfl
    exact run_pure (σ := [some p, some p, none, none]) fn__law_same hp rfl rfl rfl (e [] (.inl h))
  | false =>
    have hp : (f__law_same.pure && noRefs [p, p]) = false := by simp only [noRefs, h, Bool.false_and, Bool.and_false]
    rw [run_cut (σ := [some p, some p, none, none]) fn__law_same hp rfl rfl rfl, e μ (.inr rfl)]
    exact cutS _ _ _ rfl
theorem same_refl : ∀ (k : Nat) (p : PV) (μ : Mem), okV μ k p = true → ∀ d, k ≤ d → run prog (d + 1) 38 [p, p] μ = .ok (.bl true) μ := by
  have atom : ∀ (p : PV) (μ : Mem), (∀ G sub att F μ', evSL G sub att F f__law_same.body [some p, some p, none, none] μ' = .rt (.bl true) μ') → ∀ d, run prog (d + 1) 38 [p, p] μ = .ok (.bl true) μ := fun p μ h d => run_same fun μ' _ => h _ _ _ _ μ'
  have a1 : ∀ μ d, run prog (d + 1) 38 [.non, .non] μ = .ok (.bl true) μ := fun μ => atom _ μ fun G sub att F μ' => rfl
  have a2 : ∀ b μ d, run prog (d + 1) 38 [.bl b, .bl b] μ = .ok (.bl true) μ := fun b μ => atom _ μ fun G sub att F μ' => by cases b <;> rfl
  have a3 : ∀ i μ d, run prog (d + 1) 38 [.int i, .int i] μ = .ok (.bl true) μ := fun i μ => atom _ μ fun G sub att F μ' => by
    simp only [f__law_same, r_var, k_var, r_gl, r_non, r_bl, r_int, r_str, o_Bin2, x_Bin2, o_Bin, x_Bin, r_bin, o_Cmp2, x_Cmp2, o_Cmp, x_Cmp, r_cmp, o_Chn4, x_Chn4, o_Chn3, o_Chn2, o_Chn, x_Chn, r_chn, r_conj, r_disj, o_And, o_Or, r_And1, r_And2, r_And3, r_Or1, r_Or2, r_Or3, o_Not, r_not, o_Neg, r_neg, o_Ife, r_ife, o_Idx2, x_Idx2, o_Idx, x_Idx, r_idx, o_Slc3, o_Slc2, o_Slc, r_slc, r_pt0, o_Pt, r_pt1, o_EL2, o_EL, x_EL, x_EL2, r_nil, r_cons, o_St2, o_St1, o_St, r_star, o_Tup, x_Tup, o_Lst, x_Lst, r_tup, r_lst, r_dct, o_Bf1, x_Bf1, r_bf1, o_Bf22, x_Bf22, o_Bf2, x_Bf2, r_bf2, o_IsT, x_IsT, r_isT, o_Call, x_Call, r_call, o_CK2, o_CK, r_callK, o_Mth2, o_Mth1, o_Mth, r_mth, o_Turn2, o_Turn, o_Lc3, o_Lc2, r_lc_rng1, r_lc_rng2, r_lc_enu, r_lc_zip, r_all0, o_All, r_all1, o_Over, r_over, o_Rng1, r_rng1, o_Rng22, o_Rng2, r_rng2, r_sl0, r_sl, o_Seq, o_SeqR, o_SeqX, o_SeqC, o_Asg, x_Asg, r_asg, o_AT2, o_AT, r_asgT, o_Ret, x_Ret, r_ret, o_Expr, x_Expr, r_expr, o_Raise, r_raise, o_If, x_If, r_if, o_For, r_for, o_Sx3, o_Sx2, o_Sx, r_setx, r_doc, m_and, m_or, opt_some, okB_some, okI_some, newL_f, ofNat_toNat, map_some, List.getElem?_cons_zero, List.getElem?_cons_succ, List.set, bf1, Nat.reduceBEq, Bool.or_false, Bool.false_or, Bool.or_true, Bool.true_or, Bool.not_true, Bool.not_false, Bool.and_true, Bool.true_and, Bool.and_false, Bool.false_and, cond_true, cond_false, List.length_nil, List.length_cons, Nat.zero_add, Nat.reduceAdd, ble_zero, bg1, bg2, bg3, bg4, bg5, bg6, bg7, bg8, bg9, bg10, bg11, bg12, bg13, bg14, bg15, cmpq, isq_non, non_int, isT_one, kind_int, k_int, k_bool, int_i, sub_ii, Int.sub_self, eqq_int]
    rfl
  have a4 : ∀ s μ d, run prog (d + 1) 38 [.str s, .str s] μ = .ok (.bl true) μ := fun s μ => atom _ μ fun G sub att F μ' => by
    simp only [f__law_same, r_var, k_var, r_gl, r_non, r_bl, r_int, r_str, o_Bin2, x_Bin2, o_Bin, x_Bin, r_bin, o_Cmp2, x_Cmp2, o_Cmp, x_Cmp, r_cmp, o_Chn4, x_Chn4, o_Chn3, o_Chn2, o_Chn, x_Chn, r_chn, r_conj, r_disj, o_And, o_Or, r_And1, r_And2, r_And3, r_Or1, r_Or2, r_Or3, o_Not, r_not, o_Neg, r_neg, o_Ife, r_ife, o_Idx2, x_Idx2, o_Idx, x_Idx, r_idx, o_Slc3, o_Slc2, o_Slc, r_slc, r_pt0, o_Pt, r_pt1, o_EL2, o_EL, x_EL, x_EL2, r_nil, r_cons, o_St2, o_St1, o_St, r_star, o_Tup, x_Tup, o_Lst, x_Lst, r_tup, r_lst, r_dct, o_Bf1, x_Bf1, r_bf1, o_Bf22, x_Bf22, o_Bf2, x_Bf2, r_bf2, o_IsT, x_IsT, r_isT, o_Call, x_Call, r_call, o_CK2, o_CK, r_callK, o_Mth2, o_Mth1, o_Mth, r_mth, o_Turn2, o_Turn, o_Lc3, o_Lc2, r_lc_rng1, r_lc_rng2, r_lc_enu, r_lc_zip, r_all0, o_All, r_all1, o_Over, r_over, o_Rng1, r_rng1, o_Rng22, o_Rng2, r_rng2, r_sl0, r_sl, o_Seq, o_SeqR, o_SeqX, o_SeqC, o_Asg, x_Asg, r_asg, o_AT2, o_AT, r_asgT, o_Ret, x_Ret, r_ret, o_Expr, x_Expr, r_expr, o_Raise, r_raise, o_If, x_If, r_if, o_For, r_for, o_Sx3, o_Sx2, o_Sx, r_setx, r_doc, m_and, m_or, opt_some, okB_some, okI_some, newL_f, ofNat_toNat, map_some, List.getElem?_cons_zero, List.getElem?_cons_succ, List.set, bf1, Nat.reduceBEq, Bool.or_false, Bool.false_or, Bool.or_true, Bool.true_or, Bool.not_true, Bool.not_false, Bool.and_true, Bool.true_and, Bool.and_false, Bool.false_and, cond_true, cond_false, List.length_nil, List.length_cons, Nat.zero_add, Nat.reduceAdd, ble_zero, bg1, bg2, bg3, bg4, bg5, bg6, bg7, bg8, bg9, bg10, bg11, bg12, bg13, bg14, bg15, cmpq, isq_non, non_str, isT_one, kind_str, k_int, k_bool, k_str, eqq_str, beq_self_eq_true]
  intro k
  induction k with
  | zero =>
    intro p μ h d _
    cases p with
    | non => exact a1 μ d
    | bl b => exact a2 b μ d
    | int i => exact a3 i μ d
    | str s => exact a4 s μ d
    | _ => simp [okV] at h
  | succ k ih =>
    intro p μ h d hd
    obtain ⟨d, rfl⟩ : ∃ d', d = d' + 1 := ⟨d - 1, by omega⟩
    have seq : ∀ {p : PV} {xs : List PV}, (∀ μ', (noRef p = true ∨ μ' = μ) → sqR μ' p = some xs ∧ (kindP μ' p = 4 ∨ kindP μ' p = 5) ∧ (∀ x ∈ xs, okV μ' k x = true)) → Nat.blt xs.length 1000000 = true → run prog (d + 1 + 1) 38 [p, p] μ = .ok (.bl true) μ := fun {p xs} h hl => run_same fun μ' hμ => by
      obtain ⟨h1, h2, h3⟩ := h μ' hμ
      exact same_seq h1 h2 (by simpa [Nat.blt_eq] using hl) fun x hx => ih x μ' (h3 x hx) d (by omega)
    have bare : ∀ (xs : List PV) (p : PV), xs.all (okV μ k) = true → (noRef p = true → noRefs xs = true) → ∀ μ', (noRef p = true ∨ μ' = μ) → ∀ x ∈ xs, okV μ' k x = true := by
      intro xs p ha hn μ' hμ x hx
      have hx1 := List.all_eq_true.mp ha x hx
      rcases hμ with hr | rfl
      · have hz := hn hr
        have hnx : noRef x = true := by
          clear ha hn
          induction xs with
          | nil => cases hx
          | cons y r ihy =>
            simp only [noRefs, Bool.and_eq_true] at hz
            rcases List.mem_cons.mp hx with e | hx
            · rw [e]; exact hz.1
            · exact ihy hx hz.2
        exact okV_bare μ μ' k x hx1 hnx
      · exact hx1
    cases p with
    | non => exact a1 μ _
    | bl b => exact a2 b μ _
    | int i => exact a3 i μ _
    | str s => exact a4 s μ _
    | tup xs =>
      simp only [okV, Bool.and_eq_true] at h
      exact seq (fun μ' hμ => ⟨rfl, .inl rfl, bare xs (.tup xs) h.2 id μ' hμ⟩) h.1
    | lst xs =>
      simp only [okV, Bool.and_eq_true] at h
      exact seq (fun μ' hμ => ⟨rfl, .inr rfl, bare xs (.lst xs) h.2 id μ' hμ⟩) h.1
    | ref n =>
      simp only [okV] at h
      split at h
      · rename_i xs hm
        simp only [Bool.and_eq_true] at h
        refine seq (p := .ref n) (xs := xs) (fun μ' hμ => ?_) h.1
        rcases hμ with hr | rfl
        · cases hr
        · exact ⟨by simp only [sqR, lsR, lsOf, hm], .inr (by simp only [kindP, hm]), fun x hx => List.all_eq_true.mp h.2 x hx⟩
      · cases h
    | dct _ => simp [okV] at h
    | scr _ => simp [okV] at h
end K77
end HP
set_option Elab.async false
set_option linter.all false
set_option maxRecDepth 100000
set_option maxHeartbeats 2000000
namespace HP
namespace K77
open PySem PySem.Spec PyProof.Rows L2
structure TB where
  w : Nat
  m : Nat
  size : Nat
  rows : List (List Nat × List (Option (Nat × Nat)))
def itP : Option (Nat × Nat) → PV
  | none => .non
  | some (a, b) => .tup [.int (Int.ofNat a), .int (Int.ofNat b)]
def rowP (r : List Nat × List (Option (Nat × Nat))) : PV := .tup [.str r.1, .tup (r.2.map itP)]
def dueP (t : TB) : PV := .tup (t.rows.map rowP)
def worldP (t : TB) : PV := .tup [.tup [.str [99], dueP t]]
def nameAt (t : TB) (i : Nat) : List Nat := (t.rows.getD i ([], [])).1
def deedP (t : TB) (i : Nat) : PV := .tup [.str [99], .str (nameAt t i)]
def T (t : TB) (i h : Nat) : Option (Nat × Nat) := (t.rows.getD i ([], [])).2.getD h none
def stP (h : Nat) : PV := .tup [.int (Int.ofNat h)]
def outP : Option (Nat × Nat) → PV
  | none => .non
  | some (a, b) => .tup [stP a, .int (Int.ofNat b)]
def t0 : TB := ⟨0, 1, 1, [([97, 100, 100], [some (0, 0)]), ([99, 108, 101, 97, 114], [some (0, 0)]), ([108, 111, 111, 107], [some (0, 0)])]⟩
def t1 : TB := ⟨0, 2, 2, [([97, 100, 100], [some (1, 0), some (0, 1)]), ([99, 108, 101, 97, 114], [some (0, 0), some (0, 0)]), ([108, 111, 111, 107], [some (0, 0), some (1, 1)])]⟩
def t2 : TB := ⟨0, 3, 3, [([97, 100, 100], [some (1, 0), some (2, 1), some (0, 2)]), ([99, 108, 101, 97, 114], [some (0, 0), some (0, 0), some (0, 0)]), ([108, 111, 111, 107], [some (0, 0), some (1, 1), some (2, 2)])]⟩
def t3 : TB := ⟨0, 4, 4, [([97, 100, 100], [some (1, 0), some (2, 1), some (3, 2), some (0, 3)]), ([99, 108, 101, 97, 114], [some (0, 0), some (0, 0), some (0, 0), some (0, 0)]), ([108, 111, 111, 107], [some (0, 0), some (1, 1), some (2, 2), some (3, 3)])]⟩
def t4 : TB := ⟨1, 1, 2, [([103, 105, 118, 101], [some (1, 0), none]), ([116, 97, 107, 101], [none, some (0, 0)])]⟩
def t5 : TB := ⟨1, 2, 3, [([103, 105, 118, 101], [some (1, 0), some (2, 0), none]), ([116, 97, 107, 101], [none, some (0, 0), some (1, 0)])]⟩
def t6 : TB := ⟨1, 3, 4, [([103, 105, 118, 101], [some (1, 0), some (2, 0), some (3, 0), none]), ([116, 97, 107, 101], [none, some (0, 0), some (1, 0), some (2, 0)])]⟩
def t7 : TB := ⟨1, 4, 5, [([103, 105, 118, 101], [some (1, 0), some (2, 0), some (3, 0), some (4, 0), none]), ([116, 97, 107, 101], [none, some (0, 0), some (1, 0), some (2, 0), some (3, 0)])]⟩
def t8 : TB := ⟨1, 5, 6, [([103, 105, 118, 101], [some (1, 0), some (2, 0), some (3, 0), some (4, 0), some (5, 0), none]), ([116, 97, 107, 101], [none, some (0, 0), some (1, 0), some (2, 0), some (3, 0), some (4, 0)])]⟩
def t9 : TB := ⟨2, 1, 2, [([102, 114, 101, 101], [some (0, 0), some (0, 0)]), ([103, 114, 97, 98], [some (1, 0), none]), ([116, 114, 121], [some (1, 1), some (1, 0)])]⟩
def tabs : List TB := [t0, t1, t2, t3, t4, t5, t6, t7, t8, t9]
def part1 : SL := (.cons (.asg 4 (.call 41 (.cons (.var 1) (.cons (.var 2) .nil)))) (.cons (.ife (.not (.call 38 (.cons (.lst false (.cons (.call 42 (.cons (.var 1) (.cons (.var 2) (.cons (.var 3) .nil)))) (.cons (.call 42 (.cons (.var 1) (.cons (.var 2) (.cons (.not (.var 3)) .nil)))) .nil))) (.cons (.bin false .Mult (.lst false (.cons (.lst false (.cons (.str [97, 110, 115, 119, 101, 114]) (.cons (.var 4) (.cons (.bl true) .nil)))) .nil)) (.int 2)) .nil)))) (.cons (.ret (.bl false)) .nil) .nil) (.cons (.asg 5 (.idx (.call 42 (.cons (.var 1) (.cons (.var 2) (.cons (.var 3) .nil)))) (.int 1))) (.cons (.asgT (.tup (.cons (.nm 6) (.cons (.nm 7) .nil))) (.tup (.cons (.tup (.cons (.tup (.cons (.str [99]) (.cons (.var 5) .nil))) .nil)) (.cons (.bf1 false .len (.idx (.idx (.var 4) (.int 0)) (.int 1))) .nil)))) (.cons (.ife (.disj (.cons (.cmp .IsNot (.call 15 (.cons (.var 5) .nil)) (.bl true)) (.cons (.not (.call 38 (.cons (.call 26 (.cons (.var 6) .nil)) (.cons (.lc false [14] (.nm 14) (.over (.var 4)) .nil (.tup (.cons (.str [99]) (.cons (.idx (.var 14) (.int 0)) .nil)))) .nil)))) .nil))) (.cons (.ret (.bl false)) .nil) .nil) (.cons (.for (.tup (.cons (.nm 8) (.cons (.nm 9) .nil))) (.over (.var 4)) (.cons (.asg 10 (.bf1 false .sorted (.bf1 false .dict (.lc false [18] (.nm 18) (.over (.var 9)) (.cons (.cmp .IsNot (.var 18) .non) .nil) (.tup (.cons (.idx (.var 18) (.int 1)) (.cons (.bl true) .nil))))))) (.cons (.asg 11 (.bf1 false .tuple (.lc false [15] (.nm 15) (.rng1 (.var 7)) (.cons (.cmp .Is (.idx (.var 9) (.var 15)) .non) .nil) (.var 15)))) (.cons (.ife (.not (.call 38 (.cons (.lst false (.cons (.call 18 (.cons (.var 5) (.cons (.var 8) .nil))) (.cons (.call 19 (.cons (.var 5) (.cons (.var 8) .nil))) .nil))) (.cons (.lst false (.cons (.bf1 false .tuple (.var 10)) (.cons (.var 11) .nil))) .nil)))) (.cons (.ret (.bl false)) .nil) .nil) (.cons (.asg 12 (.cmp .Eq (.lc false [15] (.nm 15) (.rng1 (.var 7)) (.cons (.disj (.cons (.cmp .Is (.idx (.var 9) (.var 15)) .non) (.cons (.cmp .NotEq (.idx (.idx (.var 9) (.var 15)) (.int 0)) (.var 15)) .nil))) .nil) (.var 15)) (.lst false .nil))) (.cons (.ife (.not (.call 38 (.cons (.lst false (.cons (.call 21 (.cons (.var 5) (.cons (.var 8) .nil))) (.cons (.call 20 (.cons (.var 5) (.cons (.var 8) .nil))) .nil))) (.cons (.lst false (.cons (.conj (.cons (.var 12) (.cons (.cmp .Eq (.bf1 false .len (.var 10)) (.var 7)) .nil))) (.cons (.conj (.cons (.var 12) (.cons (.cmp .Eq (.bf1 false .len (.var 10)) (.int 1)) .nil))) .nil))) .nil)))) (.cons (.ret (.bl false)) .nil) .nil) .nil)))))) .nil))))))
-- 8 statements
def turns : S := (.for (.nm 13) (.rng1 (.int 4)) (.cons (.asg 14 (.lc false [19] (.nm 19) (.rng1 (.bin false .Add (.int 1) (.call 36 (.cons (.var 0) (.cons (.int 6) .nil))))) .nil (.tup (.cons (.str [99]) (.cons (.idx (.call 37 (.cons (.var 0) (.cons (.var 4) .nil))) (.int 0)) .nil))))) (.cons (.asgT (.tup (.cons (.nm 15) (.cons (.nm 10) .nil))) (.tup (.cons (.call 36 (.cons (.var 0) (.cons (.var 7) .nil))) (.cons (.tup .nil) .nil)))) (.cons (.asg 16 (.var 15)) (.cons (.for (.tup (.cons (.nm 17) (.cons (.nm 8) .nil))) (.over (.var 14)) (.cons (.asg 18 (.ife (.cmp .IsNot (.var 15) .non) (.idx (.idx (.bf1 false .dict (.var 4)) (.var 8)) (.var 15)) .non)) (.cons (.asgT (.tup (.cons (.nm 15) (.cons (.nm 10) .nil))) (.ife (.cmp .Is (.var 18) .non) (.tup (.cons .non (.cons (.var 10) .nil))) (.tup (.cons (.idx (.var 18) (.int 0)) (.cons (.bin false .Add (.var 10) (.tup (.cons (.idx (.var 18) (.int 1)) .nil))) .nil))))) .nil))) (.cons (.ife (.not (.call 38 (.cons (.call 33 (.cons (.var 6) (.cons (.tup (.cons (.var 16) .nil)) (.cons (.var 14) .nil)))) (.cons (.ife (.cmp .Is (.var 15) .non) .non (.tup (.cons (.tup (.cons (.var 15) .nil)) (.cons (.var 10) .nil)))) .nil)))) (.cons (.ret (.bl false)) .nil) .nil) .nil))))))
theorem split : f__law_table_right.body = (.cons (.asg 4 (.call 41 (.cons (.var 1) (.cons (.var 2) .nil)))) (.cons (.ife (.not (.call 38 (.cons (.lst false (.cons (.call 42 (.cons (.var 1) (.cons (.var 2) (.cons (.var 3) .nil)))) (.cons (.call 42 (.cons (.var 1) (.cons (.var 2) (.cons (.not (.var 3)) .nil)))) .nil))) (.cons (.bin false .Mult (.lst false (.cons (.lst false (.cons (.str [97, 110, 115, 119, 101, 114]) (.cons (.var 4) (.cons (.bl true) .nil)))) .nil)) (.int 2)) .nil)))) (.cons (.ret (.bl false)) .nil) .nil) (.cons (.asg 5 (.idx (.call 42 (.cons (.var 1) (.cons (.var 2) (.cons (.var 3) .nil)))) (.int 1))) (.cons (.asgT (.tup (.cons (.nm 6) (.cons (.nm 7) .nil))) (.tup (.cons (.tup (.cons (.tup (.cons (.str [99]) (.cons (.var 5) .nil))) .nil)) (.cons (.bf1 false .len (.idx (.idx (.var 4) (.int 0)) (.int 1))) .nil)))) (.cons (.ife (.disj (.cons (.cmp .IsNot (.call 15 (.cons (.var 5) .nil)) (.bl true)) (.cons (.not (.call 38 (.cons (.call 26 (.cons (.var 6) .nil)) (.cons (.lc false [14] (.nm 14) (.over (.var 4)) .nil (.tup (.cons (.str [99]) (.cons (.idx (.var 14) (.int 0)) .nil)))) .nil)))) .nil))) (.cons (.ret (.bl false)) .nil) .nil) (.cons (.for (.tup (.cons (.nm 8) (.cons (.nm 9) .nil))) (.over (.var 4)) (.cons (.asg 10 (.bf1 false .sorted (.bf1 false .dict (.lc false [18] (.nm 18) (.over (.var 9)) (.cons (.cmp .IsNot (.var 18) .non) .nil) (.tup (.cons (.idx (.var 18) (.int 1)) (.cons (.bl true) .nil))))))) (.cons (.asg 11 (.bf1 false .tuple (.lc false [15] (.nm 15) (.rng1 (.var 7)) (.cons (.cmp .Is (.idx (.var 9) (.var 15)) .non) .nil) (.var 15)))) (.cons (.ife (.not (.call 38 (.cons (.lst false (.cons (.call 18 (.cons (.var 5) (.cons (.var 8) .nil))) (.cons (.call 19 (.cons (.var 5) (.cons (.var 8) .nil))) .nil))) (.cons (.lst false (.cons (.bf1 false .tuple (.var 10)) (.cons (.var 11) .nil))) .nil)))) (.cons (.ret (.bl false)) .nil) .nil) (.cons (.asg 12 (.cmp .Eq (.lc false [15] (.nm 15) (.rng1 (.var 7)) (.cons (.disj (.cons (.cmp .Is (.idx (.var 9) (.var 15)) .non) (.cons (.cmp .NotEq (.idx (.idx (.var 9) (.var 15)) (.int 0)) (.var 15)) .nil))) .nil) (.var 15)) (.lst false .nil))) (.cons (.ife (.not (.call 38 (.cons (.lst false (.cons (.call 21 (.cons (.var 5) (.cons (.var 8) .nil))) (.cons (.call 20 (.cons (.var 5) (.cons (.var 8) .nil))) .nil))) (.cons (.lst false (.cons (.conj (.cons (.var 12) (.cons (.cmp .Eq (.bf1 false .len (.var 10)) (.var 7)) .nil))) (.cons (.conj (.cons (.var 12) (.cons (.cmp .Eq (.bf1 false .len (.var 10)) (.int 1)) .nil))) .nil))) .nil)))) (.cons (.ret (.bl false)) .nil) .nil) .nil)))))) (.cons turns (.cons (.ret (.bl true)) .nil)))))))) := rfl
theorem p1_0_true (n : Nat) (μ : Mem) : evSL prog.G prog.isSub prog.att (run prog 28) part1 [some (.ref n), some (.int 0), some (.int 1), some (.bl true), none, none, none, none, none, none, none, none, none, none, none, none, none, none, none, none] μ = .nx [some (.ref n), some (.int 0), some (.int 1), some (.bl true), some (dueP t0), some (dueP t0), some (worldP t0), some (.int 1), some (.str [108, 111, 111, 107]), some (.tup [.tup [.int 0, .int 0]]), some (.lst [.int 0]), some (.tup []), some (.bl true), none, none, none, none, none, none, none] μ := by kernel_rfl
theorem p1_0_false (n : Nat) (μ : Mem) : evSL prog.G prog.isSub prog.att (run prog 28) part1 [some (.ref n), some (.int 0), some (.int 1), some (.bl false), none, none, none, none, none, none, none, none, none, none, none, none, none, none, none, none] μ = .nx [some (.ref n), some (.int 0), some (.int 1), some (.bl false), some (dueP t0), some (dueP t0), some (worldP t0), some (.int 1), some (.str [108, 111, 111, 107]), some (.tup [.tup [.int 0, .int 0]]), some (.lst [.int 0]), some (.tup []), some (.bl true), none, none, none, none, none, none, none] μ := by kernel_rfl
theorem p1_1_true (n : Nat) (μ : Mem) : evSL prog.G prog.isSub prog.att (run prog 28) part1 [some (.ref n), some (.int 0), some (.int 2), some (.bl true), none, none, none, none, none, none, none, none, none, none, none, none, none, none, none, none] μ = .nx [some (.ref n), some (.int 0), some (.int 2), some (.bl true), some (dueP t1), some (dueP t1), some (worldP t1), some (.int 2), some (.str [108, 111, 111, 107]), some (.tup [.tup [.int 0, .int 0], .tup [.int 1, .int 1]]), some (.lst [.int 0, .int 1]), some (.tup []), some (.bl true), none, none, none, none, none, none, none] μ := by kernel_rfl
theorem p1_1_false (n : Nat) (μ : Mem) : evSL prog.G prog.isSub prog.att (run prog 28) part1 [some (.ref n), some (.int 0), some (.int 2), some (.bl false), none, none, none, none, none, none, none, none, none, none, none, none, none, none, none, none] μ = .nx [some (.ref n), some (.int 0), some (.int 2), some (.bl false), some (dueP t1), some (dueP t1), some (worldP t1), some (.int 2), some (.str [108, 111, 111, 107]), some (.tup [.tup [.int 0, .int 0], .tup [.int 1, .int 1]]), some (.lst [.int 0, .int 1]), some (.tup []), some (.bl true), none, none, none, none, none, none, none] μ := by kernel_rfl
theorem p1_2_true (n : Nat) (μ : Mem) : evSL prog.G prog.isSub prog.att (run prog 28) part1 [some (.ref n), some (.int 0), some (.int 3), some (.bl true), none, none, none, none, none, none, none, none, none, none, none, none, none, none, none, none] μ = .nx [some (.ref n), some (.int 0), some (.int 3), some (.bl true), some (dueP t2), some (dueP t2), some (worldP t2), some (.int 3), some (.str [108, 111, 111, 107]), some (.tup [.tup [.int 0, .int 0], .tup [.int 1, .int 1], .tup [.int 2, .int 2]]), some (.lst [.int 0, .int 1, .int 2]), some (.tup []), some (.bl true), none, none, none, none, none, none, none] μ := by kernel_rfl
theorem p1_2_false (n : Nat) (μ : Mem) : evSL prog.G prog.isSub prog.att (run prog 28) part1 [some (.ref n), some (.int 0), some (.int 3), some (.bl false), none, none, none, none, none, none, none, none, none, none, none, none, none, none, none, none] μ = .nx [some (.ref n), some (.int 0), some (.int 3), some (.bl false), some (dueP t2), some (dueP t2), some (worldP t2), some (.int 3), some (.str [108, 111, 111, 107]), some (.tup [.tup [.int 0, .int 0], .tup [.int 1, .int 1], .tup [.int 2, .int 2]]), some (.lst [.int 0, .int 1, .int 2]), some (.tup []), some (.bl true), none, none, none, none, none, none, none] μ := by kernel_rfl
theorem p1_3_true (n : Nat) (μ : Mem) : evSL prog.G prog.isSub prog.att (run prog 28) part1 [some (.ref n), some (.int 0), some (.int 4), some (.bl true), none, none, none, none, none, none, none, none, none, none, none, none, none, none, none, none] μ = .nx [some (.ref n), some (.int 0), some (.int 4), some (.bl true), some (dueP t3), some (dueP t3), some (worldP t3), some (.int 4), some (.str [108, 111, 111, 107]), some (.tup [.tup [.int 0, .int 0], .tup [.int 1, .int 1], .tup [.int 2, .int 2], .tup [.int 3, .int 3]]), some (.lst [.int 0, .int 1, .int 2, .int 3]), some (.tup []), some (.bl true), none, none, none, none, none, none, none] μ := by kernel_rfl
theorem p1_3_false (n : Nat) (μ : Mem) : evSL prog.G prog.isSub prog.att (run prog 28) part1 [some (.ref n), some (.int 0), some (.int 4), some (.bl false), none, none, none, none, none, none, none, none, none, none, none, none, none, none, none, none] μ = .nx [some (.ref n), some (.int 0), some (.int 4), some (.bl false), some (dueP t3), some (dueP t3), some (worldP t3), some (.int 4), some (.str [108, 111, 111, 107]), some (.tup [.tup [.int 0, .int 0], .tup [.int 1, .int 1], .tup [.int 2, .int 2], .tup [.int 3, .int 3]]), some (.lst [.int 0, .int 1, .int 2, .int 3]), some (.tup []), some (.bl true), none, none, none, none, none, none, none] μ := by kernel_rfl
theorem p1_4_true (n : Nat) (μ : Mem) : evSL prog.G prog.isSub prog.att (run prog 28) part1 [some (.ref n), some (.int 1), some (.int 1), some (.bl true), none, none, none, none, none, none, none, none, none, none, none, none, none, none, none, none] μ = .nx [some (.ref n), some (.int 1), some (.int 1), some (.bl true), some (dueP t4), some (dueP t4), some (worldP t4), some (.int 2), some (.str [116, 97, 107, 101]), some (.tup [.non, .tup [.int 0, .int 0]]), some (.lst [.int 0]), some (.tup [.int 0]), some (.bl false), none, none, none, none, none, none, none] μ := by kernel_rfl
theorem p1_4_false (n : Nat) (μ : Mem) : evSL prog.G prog.isSub prog.att (run prog 28) part1 [some (.ref n), some (.int 1), some (.int 1), some (.bl false), none, none, none, none, none, none, none, none, none, none, none, none, none, none, none, none] μ = .nx [some (.ref n), some (.int 1), some (.int 1), some (.bl false), some (dueP t4), some (dueP t4), some (worldP t4), some (.int 2), some (.str [116, 97, 107, 101]), some (.tup [.non, .tup [.int 0, .int 0]]), some (.lst [.int 0]), some (.tup [.int 0]), some (.bl false), none, none, none, none, none, none, none] μ := by kernel_rfl
theorem p1_5_true (n : Nat) (μ : Mem) : evSL prog.G prog.isSub prog.att (run prog 28) part1 [some (.ref n), some (.int 1), some (.int 2), some (.bl true), none, none, none, none, none, none, none, none, none, none, none, none, none, none, none, none] μ = .nx [some (.ref n), some (.int 1), some (.int 2), some (.bl true), some (dueP t5), some (dueP t5), some (worldP t5), some (.int 3), some (.str [116, 97, 107, 101]), some (.tup [.non, .tup [.int 0, .int 0], .tup [.int 1, .int 0]]), some (.lst [.int 0]), some (.tup [.int 0]), some (.bl false), none, none, none, none, none, none, none] μ := by kernel_rfl
theorem p1_5_false (n : Nat) (μ : Mem) : evSL prog.G prog.isSub prog.att (run prog 28) part1 [some (.ref n), some (.int 1), some (.int 2), some (.bl false), none, none, none, none, none, none, none, none, none, none, none, none, none, none, none, none] μ = .nx [some (.ref n), some (.int 1), some (.int 2), some (.bl false), some (dueP t5), some (dueP t5), some (worldP t5), some (.int 3), some (.str [116, 97, 107, 101]), some (.tup [.non, .tup [.int 0, .int 0], .tup [.int 1, .int 0]]), some (.lst [.int 0]), some (.tup [.int 0]), some (.bl false), none, none, none, none, none, none, none] μ := by kernel_rfl
theorem p1_6_true (n : Nat) (μ : Mem) : evSL prog.G prog.isSub prog.att (run prog 28) part1 [some (.ref n), some (.int 1), some (.int 3), some (.bl true), none, none, none, none, none, none, none, none, none, none, none, none, none, none, none, none] μ = .nx [some (.ref n), some (.int 1), some (.int 3), some (.bl true), some (dueP t6), some (dueP t6), some (worldP t6), some (.int 4), some (.str [116, 97, 107, 101]), some (.tup [.non, .tup [.int 0, .int 0], .tup [.int 1, .int 0], .tup [.int 2, .int 0]]), some (.lst [.int 0]), some (.tup [.int 0]), some (.bl false), none, none, none, none, none, none, none] μ := by kernel_rfl
theorem p1_6_false (n : Nat) (μ : Mem) : evSL prog.G prog.isSub prog.att (run prog 28) part1 [some (.ref n), some (.int 1), some (.int 3), some (.bl false), none, none, none, none, none, none, none, none, none, none, none, none, none, none, none, none] μ = .nx [some (.ref n), some (.int 1), some (.int 3), some (.bl false), some (dueP t6), some (dueP t6), some (worldP t6), some (.int 4), some (.str [116, 97, 107, 101]), some (.tup [.non, .tup [.int 0, .int 0], .tup [.int 1, .int 0], .tup [.int 2, .int 0]]), some (.lst [.int 0]), some (.tup [.int 0]), some (.bl false), none, none, none, none, none, none, none] μ := by kernel_rfl
theorem p1_7_true (n : Nat) (μ : Mem) : evSL prog.G prog.isSub prog.att (run prog 28) part1 [some (.ref n), some (.int 1), some (.int 4), some (.bl true), none, none, none, none, none, none, none, none, none, none, none, none, none, none, none, none] μ = .nx [some (.ref n), some (.int 1), some (.int 4), some (.bl true), some (dueP t7), some (dueP t7), some (worldP t7), some (.int 5), some (.str [116, 97, 107, 101]), some (.tup [.non, .tup [.int 0, .int 0], .tup [.int 1, .int 0], .tup [.int 2, .int 0], .tup [.int 3, .int 0]]), some (.lst [.int 0]), some (.tup [.int 0]), some (.bl false), none, none, none, none, none, none, none] μ := by kernel_rfl
theorem p1_7_false (n : Nat) (μ : Mem) : evSL prog.G prog.isSub prog.att (run prog 28) part1 [some (.ref n), some (.int 1), some (.int 4), some (.bl false), none, none, none, none, none, none, none, none, none, none, none, none, none, none, none, none] μ = .nx [some (.ref n), some (.int 1), some (.int 4), some (.bl false), some (dueP t7), some (dueP t7), some (worldP t7), some (.int 5), some (.str [116, 97, 107, 101]), some (.tup [.non, .tup [.int 0, .int 0], .tup [.int 1, .int 0], .tup [.int 2, .int 0], .tup [.int 3, .int 0]]), some (.lst [.int 0]), some (.tup [.int 0]), some (.bl false), none, none, none, none, none, none, none] μ := by kernel_rfl
theorem p1_8_true (n : Nat) (μ : Mem) : evSL prog.G prog.isSub prog.att (run prog 28) part1 [some (.ref n), some (.int 1), some (.int 5), some (.bl true), none, none, none, none, none, none, none, none, none, none, none, none, none, none, none, none] μ = .nx [some (.ref n), some (.int 1), some (.int 5), some (.bl true), some (dueP t8), some (dueP t8), some (worldP t8), some (.int 6), some (.str [116, 97, 107, 101]), some (.tup [.non, .tup [.int 0, .int 0], .tup [.int 1, .int 0], .tup [.int 2, .int 0], .tup [.int 3, .int 0], .tup [.int 4, .int 0]]), some (.lst [.int 0]), some (.tup [.int 0]), some (.bl false), none, none, none, none, none, none, none] μ := by kernel_rfl
theorem p1_8_false (n : Nat) (μ : Mem) : evSL prog.G prog.isSub prog.att (run prog 28) part1 [some (.ref n), some (.int 1), some (.int 5), some (.bl false), none, none, none, none, none, none, none, none, none, none, none, none, none, none, none, none] μ = .nx [some (.ref n), some (.int 1), some (.int 5), some (.bl false), some (dueP t8), some (dueP t8), some (worldP t8), some (.int 6), some (.str [116, 97, 107, 101]), some (.tup [.non, .tup [.int 0, .int 0], .tup [.int 1, .int 0], .tup [.int 2, .int 0], .tup [.int 3, .int 0], .tup [.int 4, .int 0]]), some (.lst [.int 0]), some (.tup [.int 0]), some (.bl false), none, none, none, none, none, none, none] μ := by kernel_rfl
theorem p1_9_true (n : Nat) (μ : Mem) : evSL prog.G prog.isSub prog.att (run prog 28) part1 [some (.ref n), some (.int 2), some (.int 1), some (.bl true), none, none, none, none, none, none, none, none, none, none, none, none, none, none, none, none] μ = .nx [some (.ref n), some (.int 2), some (.int 1), some (.bl true), some (dueP t9), some (dueP t9), some (worldP t9), some (.int 2), some (.str [116, 114, 121]), some (.tup [.tup [.int 1, .int 1], .tup [.int 1, .int 0]]), some (.lst [.int 0, .int 1]), some (.tup []), some (.bl false), none, none, none, none, none, none, none] μ := by kernel_rfl
theorem p1_9_false (n : Nat) (μ : Mem) : evSL prog.G prog.isSub prog.att (run prog 28) part1 [some (.ref n), some (.int 2), some (.int 1), some (.bl false), none, none, none, none, none, none, none, none, none, none, none, none, none, none, none, none] μ = .nx [some (.ref n), some (.int 2), some (.int 1), some (.bl false), some (dueP t9), some (dueP t9), some (worldP t9), some (.int 2), some (.str [116, 114, 121]), some (.tup [.tup [.int 1, .int 1], .tup [.int 1, .int 0]]), some (.lst [.int 0, .int 1]), some (.tup []), some (.bl false), none, none, none, none, none, none, none] μ := by kernel_rfl
end K77
end HP
set_option Elab.async false
set_option linter.all false
set_option maxRecDepth 100000
set_option maxHeartbeats 2000000
namespace HP
namespace K77
open PySem PySem.Spec PyProof.Rows L2
def okT (t : TB) : Bool := Nat.ble 1 t.rows.length && (Nat.ble t.rows.length 3 && (Nat.ble 1 t.size && (Nat.ble t.size 6 &&
  ((List.range t.rows.length).all fun i => isOk (run prog 27 28 [worldP t, deedP t i] []) (.bl true) && (List.range t.size).all fun h =>
    isOk (run prog 26 30 [worldP t, stP h, deedP t i] []) (outP (T t i h)) && (match T t i h with
      | none => true
      | some (a, _) => Nat.blt a t.size)))))
def okC (t : TB) : Bool := (List.range t.size).all fun h => isOk (run prog 27 31 [worldP t, stP h] []) .non
theorem okT_all : tabs.all okT = true := by decide +kernel
theorem okC_all : tabs.all okC = true := by decide +kernel
/-- the dict of a table's rows -/
def dctP (t : TB) : List (PV × PV) := mergeP [] (t.rows.map fun r => (.str r.1, .tup (r.2.map itP)))
def okD (t : TB) : Bool := (List.range t.rows.length).all fun i => match lookP (dctP t) (.str (nameAt t i)) with
  | some (.tup xs) => (List.range t.size).all fun h => match atI xs (Int.ofNat h) with
    | some p => pveq p (itP (T t i h))
    | none => false
  | _ => false
theorem okD_all : tabs.all okD = true := by decide +kernel
structure Tb (t : TB) : Prop where
  n1 : 1 ≤ t.rows.length
  n3 : t.rows.length ≤ 3
  s1 : 1 ≤ t.size
  s6 : t.size ≤ 6
  deed : ∀ i, i < t.rows.length → ∀ μ, run prog 27 28 [worldP t, deedP t i] μ = .ok (.bl true) μ
  done : ∀ i h, i < t.rows.length → h < t.size → ∀ μ, run prog 26 30 [worldP t, stP h, deedP t i] μ = .ok (outP (T t i h)) μ
  lt : ∀ i h a b, i < t.rows.length → h < t.size → T t i h = some (a, b) → a < t.size
  chk : ∀ h, h < t.size → ∀ μ, run prog 27 31 [worldP t, stP h] μ = .ok .non μ
  own : ∀ i h, i < t.rows.length → h < t.size → ∀ μ, (idxq (.dct (dctP t)) (.str (nameAt t i)) μ).bind (fun p => idxq p (.int (Int.ofNat h)) μ) = some (itP (T t i h))
theorem norefs_row (r : List Nat × List (Option (Nat × Nat))) : noRef (rowP r) = true := by
  have h : ∀ l : List (Option (Nat × Nat)), noRefs (l.map itP) = true := by
    intro l
    induction l with
    | nil => rfl
    | cons x l ih => cases x <;> simp_all [noRefs, noRef, itP]
  simp only [rowP, noRef, noRefs, h, Bool.and_self]
theorem noref_world (t : TB) : noRef (worldP t) = true := by
  have h : ∀ l : List (List Nat × List (Option (Nat × Nat))), noRefs (l.map rowP) = true := by
    intro l
    induction l with
    | nil => rfl
    | cons x l ih => simp only [List.map, noRefs, norefs_row, ih, Bool.and_self]
  simp only [worldP, dueP, noRef, noRefs, h, Bool.and_self]
theorem tb_of {t : TB} (ht : t ∈ tabs) : Tb t := by
  have h1 := List.all_eq_true.mp okT_all t ht
  have h2 := List.all_eq_true.mp okC_all t ht
  have h3 := List.all_eq_true.mp okD_all t ht
  simp only [okT, Bool.and_eq_true] at h1
  obtain ⟨a1, a2, a3, a4, a5⟩ := h1
  have nw := noref_world t
  have r2 : ∀ p, noRef p = true → noRefs [worldP t, p] = true := fun p h => by simp only [noRefs, nw, h, Bool.and_self]
  have r3 : ∀ p q, noRef p = true → noRef q = true → noRefs [worldP t, p, q] = true := fun p q h h' => by simp only [noRefs, nw, h, h', Bool.and_self]
  have ns : ∀ h, noRef (stP h) = true := fun h => rfl
  have nd : ∀ i, noRef (deedP t i) = true := fun h => rfl
  refine ⟨Nat.le_of_ble_eq_true a1, Nat.le_of_ble_eq_true a2, Nat.le_of_ble_eq_true a3, Nat.le_of_ble_eq_true a4, fun i hi μ => ?_, fun i h hi hh μ => ?_, fun i h a b hi hh e => ?_, fun h hh μ => ?_, fun i h hi hh μ => ?_⟩
  · have z := List.all_eq_true.mp a5 i (List.mem_range.mpr hi)
    simp only [Bool.and_eq_true] at z
    exact run_lift fn_is_deed (by simp only [r2 _ (nd i)]; rfl) (isOk_of z.1)
  · have z := List.all_eq_true.mp a5 i (List.mem_range.mpr hi)
    simp only [Bool.and_eq_true] at z
    have z2 := List.all_eq_true.mp z.2 h (List.mem_range.mpr hh)
    simp only [Bool.and_eq_true] at z2
    exact run_lift fn_done (by simp only [r3 _ _ (ns h) (nd i)]; rfl) (isOk_of z2.1)
  · have z := List.all_eq_true.mp a5 i (List.mem_range.mpr hi)
    simp only [Bool.and_eq_true] at z
    have z2 := List.all_eq_true.mp z.2 h (List.mem_range.mpr hh)
    simp only [Bool.and_eq_true, e, Nat.blt_eq] at z2
    exact z2.2
  · have z := List.all_eq_true.mp h2 h (List.mem_range.mpr hh)
    exact run_lift fn_check_standing (by simp only [r2 _ (ns h)]; rfl) (isOk_of z)
  · have z := List.all_eq_true.mp h3 i (List.mem_range.mpr hi)
    have e1 : idxq (.dct (dctP t)) (.str (nameAt t i)) μ = lookP (dctP t) (.str (nameAt t i)) := rfl
    rw [e1]
    split at z
    · rename_i xs hx
      rw [hx]
      have z2 := List.all_eq_true.mp z h (List.mem_range.mpr hh)
      split at z2
      · rename_i p hp
        show idxq (.tup xs) (.int (Int.ofNat h)) μ = _
        have e2 : idxq (.tup xs) (.int (Int.ofNat h)) μ = atI xs (Int.ofNat h) := rfl
        rw [e2, hp, pveq_eq _ _ z2]
      · cases z2
    · cases z
end K77
end HP
set_option Elab.async false
set_option linter.all false
set_option maxRecDepth 10000
set_option maxHeartbeats 1000000
namespace HP
namespace K77
open PySem PySem.Spec PyProof.Rows L2
abbrev ev (d : Nat) (l : SL) (σ : PSt) (μ : Mem) : Fl := evSL prog.G prog.isSub prog.att (run prog d) l σ μ
/-- a row of deeds, by own doing -/
def stepO (t : TB) : Option Nat × List Int → Nat → Option Nat × List Int
  | (none, l), _ => (none, l)
  | (some h, l), i => match T t i h with
    | none => (none, l)
    | some (a, b) => (some a, l ++ [Int.ofNat b])
def own (t : TB) (is : List Nat) (s : Option Nat × List Int) : Option Nat × List Int := is.foldl (stepO t) s
theorem own_none (t : TB) (is : List Nat) (l : List Int) : own t is (none, l) = (none, l) := by
  induction is with
  | nil => rfl
  | cons i is ih => exact ih
def resP : Option Nat × List Int → PV
  | (none, _) => .non
  | (some h, l) => .tup [stP h, .tup (l.map PV.int)]
def rdbody : SL := (.cons (.asg 5 (.call 30 (.cons (.var 0) (.cons (.var 1) (.cons (.var 4) .nil))))) (.cons (.ife (.cmp .Is (.var 5) .non) (.cons (.ret .non) .nil) .nil) (.cons (.asgT (.tup (.cons (.nm 1) (.cons (.nm 3) .nil))) (.tup (.cons (.idx (.var 5) (.int 0)) (.cons (.tup (.star (.var 3) (.cons (.idx (.var 5) (.int 1)) .nil))) .nil)))) .nil)))
theorem rd_step {t : TB} {b : Tb t} {i h : Nat} (hi : i < t.rows.length) (hh : h < t.size) (l : List Int) (hl : l.length < 1000) (s2 s5 : Option PV) (μ : Mem) :
    ev 26 rdbody [some (worldP t), some (stP h), s2, some (.tup (l.map PV.int)), some (deedP t i), s5] μ = match T t i h with
      | none => .rt .non μ
      | some (a, c) => .nx [some (worldP t), some (stP a), s2, some (.tup ((l ++ [Int.ofNat c]).map PV.int)), some (deedP t i), some (outP (some (a, c)))] μ := by
  have hd := b.done i h hi hh μ
  have h0 : ∀ a c, idxq (outP (some (a, c))) (.int 0) μ = some (stP a) := fun a c => rfl
  have h1 : ∀ a c, idxq (outP (some (a, c))) (.int 1) μ = some (.int (Int.ofNat c)) := fun a c => rfl
  have n0 : isNon (outP none) = true := rfl
  have n1 : ∀ a c, isNon (outP (some (a, c))) = false := fun a c => rfl
  have sq : ∀ l : List PV, sqR μ (.tup l) = some l := fun l => rfl
  have b1 : Nat.ble (l.length + 1) big = true := Nat.ble_eq_true_of_le (by have : big = 16777216 := rfl; omega)
  cases e : T t i h with
  | none =>
    rw [e] at hd
    simp only [rdbody, r_var, k_var, r_gl, r_non, r_bl, r_int, r_str, o_Bin2, x_Bin2, o_Bin, x_Bin, r_bin, o_Cmp2, x_Cmp2, o_Cmp, x_Cmp, r_cmp, o_Chn4, x_Chn4, o_Chn3, o_Chn2, o_Chn, x_Chn, r_chn, r_conj, r_disj, o_And, o_Or, r_And1, r_And2, r_And3, r_Or1, r_Or2, r_Or3, o_Not, r_not, o_Neg, r_neg, o_Ife, r_ife, o_Idx2, x_Idx2, o_Idx, x_Idx, r_idx, o_Slc3, o_Slc2, o_Slc, r_slc, r_pt0, o_Pt, r_pt1, o_EL2, o_EL, x_EL, x_EL2, r_nil, r_cons, o_St2, o_St1, o_St, r_star, o_Tup, x_Tup, o_Lst, x_Lst, r_tup, r_lst, r_dct, o_Bf1, x_Bf1, r_bf1, o_Bf22, x_Bf22, o_Bf2, x_Bf2, r_bf2, o_IsT, x_IsT, r_isT, o_Call, x_Call, r_call, o_CK2, o_CK, r_callK, o_Mth2, o_Mth1, o_Mth, r_mth, o_Turn2, o_Turn, o_Lc3, o_Lc2, r_lc_rng1, r_lc_rng2, r_lc_enu, r_lc_zip, r_all0, o_All, r_all1, o_Over, r_over, o_Rng1, r_rng1, o_Rng22, o_Rng2, r_rng2, r_sl0, r_sl, o_Seq, o_SeqR, o_SeqX, o_SeqC, o_Asg, x_Asg, r_asg, o_AT2, o_AT, r_asgT, o_Ret, x_Ret, r_ret, o_Expr, x_Expr, r_expr, o_Raise, r_raise, o_If, x_If, r_if, o_For, r_for, o_Sx3, o_Sx2, o_Sx, r_setx, r_doc, m_and, m_or, opt_some, okB_some, okI_some, newL_f, ofNat_toNat, map_some, List.getElem?_cons_zero, List.getElem?_cons_succ, List.set, bf1, Nat.reduceBEq, Bool.or_false, Bool.false_or, Bool.or_true, Bool.true_or, Bool.not_true, Bool.not_false, Bool.and_true, Bool.true_and, Bool.and_false, Bool.false_and, cond_true, cond_false, List.length_nil, List.length_cons, Nat.zero_add, Nat.reduceAdd, ble_zero, bg1, bg2, bg3, bg4, bg5, bg6, bg7, bg8, bg9, bg10, bg11, bg12, bg13, bg14, bg15, hd, cmpq, isq_non, n0]
  | some p =>
    obtain ⟨a, c⟩ := p
    rw [e] at hd
    simp only [rdbody, r_var, k_var, r_gl, r_non, r_bl, r_int, r_str, o_Bin2, x_Bin2, o_Bin, x_Bin, r_bin, o_Cmp2, x_Cmp2, o_Cmp, x_Cmp, r_cmp, o_Chn4, x_Chn4, o_Chn3, o_Chn2, o_Chn, x_Chn, r_chn, r_conj, r_disj, o_And, o_Or, r_And1, r_And2, r_And3, r_Or1, r_Or2, r_Or3, o_Not, r_not, o_Neg, r_neg, o_Ife, r_ife, o_Idx2, x_Idx2, o_Idx, x_Idx, r_idx, o_Slc3, o_Slc2, o_Slc, r_slc, r_pt0, o_Pt, r_pt1, o_EL2, o_EL, x_EL, x_EL2, r_nil, r_cons, o_St2, o_St1, o_St, r_star, o_Tup, x_Tup, o_Lst, x_Lst, r_tup, r_lst, r_dct, o_Bf1, x_Bf1, r_bf1, o_Bf22, x_Bf22, o_Bf2, x_Bf2, r_bf2, o_IsT, x_IsT, r_isT, o_Call, x_Call, r_call, o_CK2, o_CK, r_callK, o_Mth2, o_Mth1, o_Mth, r_mth, o_Turn2, o_Turn, o_Lc3, o_Lc2, r_lc_rng1, r_lc_rng2, r_lc_enu, r_lc_zip, r_all0, o_All, r_all1, o_Over, r_over, o_Rng1, r_rng1, o_Rng22, o_Rng2, r_rng2, r_sl0, r_sl, o_Seq, o_SeqR, o_SeqX, o_SeqC, o_Asg, x_Asg, r_asg, o_AT2, o_AT, r_asgT, o_Ret, x_Ret, r_ret, o_Expr, x_Expr, r_expr, o_Raise, r_raise, o_If, x_If, r_if, o_For, r_for, o_Sx3, o_Sx2, o_Sx, r_setx, r_doc, m_and, m_or, opt_some, okB_some, okI_some, newL_f, ofNat_toNat, map_some, List.getElem?_cons_zero, List.getElem?_cons_succ, List.set, bf1, Nat.reduceBEq, Bool.or_false, Bool.false_or, Bool.or_true, Bool.true_or, Bool.not_true, Bool.not_false, Bool.and_true, Bool.true_and, Bool.and_false, Bool.false_and, cond_true, cond_false, List.length_nil, List.length_cons, Nat.zero_add, Nat.reduceAdd, ble_zero, bg1, bg2, bg3, bg4, bg5, bg6, bg7, bg8, bg9, bg10, bg11, bg12, bg13, bg14, bg15, hd, cmpq, isq_non, n1, h0, h1, sq, List.length_append, List.length_map, b1, bindT, bindTs, List.map_append, List.map_cons, List.map_nil]
theorem rd_loop {t : TB} (b : Tb t) (s2 : Option PV) (μ : Mem) : ∀ (is : List Nat) (h : Nat) (l : List Int) (f : Nat) (s4 s5 : Option PV), (∀ i ∈ is, i < t.rows.length) → h < t.size → l.length + is.length < 1000 →
    ∃ s4' s5', forGo (.nm 4) (ev 26 rdbody) (f + is.length + 1) (.its (is.map (deedP t))) [some (worldP t), some (stP h), s2, some (.tup (l.map PV.int)), s4, s5] μ = match own t is (some h, l) with
      | (none, _) => .rt .non μ
      | (some h', l') => .nx [some (worldP t), some (stP h'), s2, some (.tup (l'.map PV.int)), s4', s5'] μ := by
  intro is
  induction is with
  | nil => intro h l f s4 s5 _ _ _; exact ⟨s4, s5, forGo_nil rfl⟩
  | cons i is ih =>
    intro h l f s4 s5 hi hh hl
    have hz := rd_step (b := b) (hi i List.mem_cons_self) hh l (by omega) s2 s5 μ
    have hlen : (i :: is).length = is.length + 1 := rfl
    rw [hlen, show f + (is.length + 1) + 1 = (f + is.length + 1) + 1 from by omega]
    have hlen2 : (i :: is).map (deedP t) = deedP t i :: is.map (deedP t) := rfl
    have ho : own t (i :: is) (some h, l) = own t is (stepO t (some h, l) i) := rfl
    rw [hlen2, ho]
    cases e : T t i h with
    | none =>
      rw [e] at hz
      have e2 : stepO t (some h, l) i = (none, l) := by simp only [stepO, e]
      rw [e2, own_none]
      exact ⟨none, none, forGo_ret (y := .one (deedP t i)) rfl rfl hz⟩
    | some p =>
      obtain ⟨a, c⟩ := p
      rw [e] at hz
      have e2 : stepO t (some h, l) i = (some a, l ++ [Int.ofNat c]) := by simp only [stepO, e]
      rw [e2]
      obtain ⟨s4', s5', h5⟩ := ih a (l ++ [Int.ofNat c]) f (some (deedP t i)) (some (outP (some (a, c)))) (fun j hj => hi j (List.mem_cons_of_mem _ hj)) (b.lt i h a c (hi i List.mem_cons_self) hh e) (by rw [List.length_append]; rw [hlen] at hl; simp only [List.length_cons, List.length_nil]; omega)
      exact ⟨s4', s5', (forGo_cons (y := .one (deedP t i)) (it' := .its (is.map (deedP t))) rfl rfl hz).trans h5⟩
theorem norefs_deeds (t : TB) (is : List Nat) : noRefs (is.map (deedP t)) = true := by
  induction is with
  | nil => rfl
  | cons i is ih => simp only [List.map, noRefs, ih, Bool.and_true]; rfl
theorem rd_run {t : TB} (b : Tb t) (is : List Nat) (h : Nat) (hi : ∀ i ∈ is, i < t.rows.length) (hh : h < t.size) (hl : is.length < 1000) (μ : Mem) : run prog 27 32 [worldP t, stP h, .lst (is.map (deedP t))] μ = .ok (resP (own t is (some h, []))) μ := by
  have hp : (f_row_done.pure && noRefs [worldP t, stP h, .lst (is.map (deedP t))]) = true := by
    simp only [noRefs, noref_world, noRef, norefs_deeds, Bool.and_self]; rfl
  refine run_pure (σ := [some (worldP t), some (stP h), some (.lst (is.map (deedP t))), none, none, none]) fn_row_done hp rfl rfl rfl ?_
  obtain ⟨s4, s5, hf⟩ := rd_loop b (some (.lst (is.map (deedP t)))) [] is h [] (big - is.length - 1) none none hi hh (by simpa using hl)
  rw [← big_sub (by omega)] at hf
  have eb : f_row_done.body = (.cons (.asg 3 (.tup .nil)) (.cons (.for (.nm 4) (.over (.var 2)) rdbody) (.cons (.ret (.tup (.cons (.var 1) (.cons (.var 3) .nil)))) .nil))) := rfl
  have hf2 : forGo (.nm 4) (evSL prog.G prog.isSub prog.att (run prog 26) rdbody) big (.its (is.map (deedP t))) [some (worldP t), some (stP h), some (.lst (is.map (deedP t))), some (.tup []), none, none] [] = _ := hf
  rw [eb]
  simp only [r_var, k_var, r_gl, r_non, r_bl, r_int, r_str, o_Bin2, x_Bin2, o_Bin, x_Bin, r_bin, o_Cmp2, x_Cmp2, o_Cmp, x_Cmp, r_cmp, o_Chn4, x_Chn4, o_Chn3, o_Chn2, o_Chn, x_Chn, r_chn, r_conj, r_disj, o_And, o_Or, r_And1, r_And2, r_And3, r_Or1, r_Or2, r_Or3, o_Not, r_not, o_Neg, r_neg, o_Ife, r_ife, o_Idx2, x_Idx2, o_Idx, x_Idx, r_idx, o_Slc3, o_Slc2, o_Slc, r_slc, r_pt0, o_Pt, r_pt1, o_EL2, o_EL, x_EL, x_EL2, r_nil, r_cons, o_St2, o_St1, o_St, r_star, o_Tup, x_Tup, o_Lst, x_Lst, r_tup, r_lst, r_dct, o_Bf1, x_Bf1, r_bf1, o_Bf22, x_Bf22, o_Bf2, x_Bf2, r_bf2, o_IsT, x_IsT, r_isT, o_Call, x_Call, r_call, o_CK2, o_CK, r_callK, o_Mth2, o_Mth1, o_Mth, r_mth, o_Turn2, o_Turn, o_Lc3, o_Lc2, r_lc_rng1, r_lc_rng2, r_lc_enu, r_lc_zip, r_all0, o_All, r_all1, o_Over, r_over, o_Rng1, r_rng1, o_Rng22, o_Rng2, r_rng2, r_sl0, r_sl, o_Seq, o_SeqR, o_SeqX, o_SeqC, o_Asg, x_Asg, r_asg, o_AT2, o_AT, r_asgT, o_Ret, x_Ret, r_ret, o_Expr, x_Expr, r_expr, o_Raise, r_raise, o_If, x_If, r_if, o_For, r_for, o_Sx3, o_Sx2, o_Sx, r_setx, r_doc, m_and, m_or, opt_some, okB_some, okI_some, newL_f, ofNat_toNat, map_some, List.getElem?_cons_zero, List.getElem?_cons_succ, List.set, bf1, Nat.reduceBEq, Bool.or_false, Bool.false_or, Bool.or_true, Bool.true_or, Bool.not_true, Bool.not_false, Bool.and_true, Bool.true_and, Bool.and_false, Bool.false_and, cond_true, cond_false, List.length_nil, List.length_cons, Nat.zero_add, Nat.reduceAdd, ble_zero, bg1, bg2, bg3, bg4, bg5, bg6, bg7, bg8, bg9, bg10, bg11, bg12, bg13, bg14, bg15, itOver, hf2]
  rcases own t is (some h, []) with ⟨_ | h', l'⟩
  · simp only [r_var, k_var, r_gl, r_non, r_bl, r_int, r_str, o_Bin2, x_Bin2, o_Bin, x_Bin, r_bin, o_Cmp2, x_Cmp2, o_Cmp, x_Cmp, r_cmp, o_Chn4, x_Chn4, o_Chn3, o_Chn2, o_Chn, x_Chn, r_chn, r_conj, r_disj, o_And, o_Or, r_And1, r_And2, r_And3, r_Or1, r_Or2, r_Or3, o_Not, r_not, o_Neg, r_neg, o_Ife, r_ife, o_Idx2, x_Idx2, o_Idx, x_Idx, r_idx, o_Slc3, o_Slc2, o_Slc, r_slc, r_pt0, o_Pt, r_pt1, o_EL2, o_EL, x_EL, x_EL2, r_nil, r_cons, o_St2, o_St1, o_St, r_star, o_Tup, x_Tup, o_Lst, x_Lst, r_tup, r_lst, r_dct, o_Bf1, x_Bf1, r_bf1, o_Bf22, x_Bf22, o_Bf2, x_Bf2, r_bf2, o_IsT, x_IsT, r_isT, o_Call, x_Call, r_call, o_CK2, o_CK, r_callK, o_Mth2, o_Mth1, o_Mth, r_mth, o_Turn2, o_Turn, o_Lc3, o_Lc2, r_lc_rng1, r_lc_rng2, r_lc_enu, r_lc_zip, r_all0, o_All, r_all1, o_Over, r_over, o_Rng1, r_rng1, o_Rng22, o_Rng2, r_rng2, r_sl0, r_sl, o_Seq, o_SeqR, o_SeqX, o_SeqC, o_Asg, x_Asg, r_asg, o_AT2, o_AT, r_asgT, o_Ret, x_Ret, r_ret, o_Expr, x_Expr, r_expr, o_Raise, r_raise, o_If, x_If, r_if, o_For, r_for, o_Sx3, o_Sx2, o_Sx, r_setx, r_doc, m_and, m_or, opt_some, okB_some, okI_some, newL_f, ofNat_toNat, map_some, List.getElem?_cons_zero, List.getElem?_cons_succ, List.set, bf1, Nat.reduceBEq, Bool.or_false, Bool.false_or, Bool.or_true, Bool.true_or, Bool.not_true, Bool.not_false, Bool.and_true, Bool.true_and, Bool.and_false, Bool.false_and, cond_true, cond_false, List.length_nil, List.length_cons, Nat.zero_add, Nat.reduceAdd, ble_zero, bg1, bg2, bg3, bg4, bg5, bg6, bg7, bg8, bg9, bg10, bg11, bg12, bg13, bg14, bg15, resP]
  · simp only [r_var, k_var, r_gl, r_non, r_bl, r_int, r_str, o_Bin2, x_Bin2, o_Bin, x_Bin, r_bin, o_Cmp2, x_Cmp2, o_Cmp, x_Cmp, r_cmp, o_Chn4, x_Chn4, o_Chn3, o_Chn2, o_Chn, x_Chn, r_chn, r_conj, r_disj, o_And, o_Or, r_And1, r_And2, r_And3, r_Or1, r_Or2, r_Or3, o_Not, r_not, o_Neg, r_neg, o_Ife, r_ife, o_Idx2, x_Idx2, o_Idx, x_Idx, r_idx, o_Slc3, o_Slc2, o_Slc, r_slc, r_pt0, o_Pt, r_pt1, o_EL2, o_EL, x_EL, x_EL2, r_nil, r_cons, o_St2, o_St1, o_St, r_star, o_Tup, x_Tup, o_Lst, x_Lst, r_tup, r_lst, r_dct, o_Bf1, x_Bf1, r_bf1, o_Bf22, x_Bf22, o_Bf2, x_Bf2, r_bf2, o_IsT, x_IsT, r_isT, o_Call, x_Call, r_call, o_CK2, o_CK, r_callK, o_Mth2, o_Mth1, o_Mth, r_mth, o_Turn2, o_Turn, o_Lc3, o_Lc2, r_lc_rng1, r_lc_rng2, r_lc_enu, r_lc_zip, r_all0, o_All, r_all1, o_Over, r_over, o_Rng1, r_rng1, o_Rng22, o_Rng2, r_rng2, r_sl0, r_sl, o_Seq, o_SeqR, o_SeqX, o_SeqC, o_Asg, x_Asg, r_asg, o_AT2, o_AT, r_asgT, o_Ret, x_Ret, r_ret, o_Expr, x_Expr, r_expr, o_Raise, r_raise, o_If, x_If, r_if, o_For, r_for, o_Sx3, o_Sx2, o_Sx, r_setx, r_doc, m_and, m_or, opt_some, okB_some, okI_some, newL_f, ofNat_toNat, map_some, List.getElem?_cons_zero, List.getElem?_cons_succ, List.set, bf1, Nat.reduceBEq, Bool.or_false, Bool.false_or, Bool.or_true, Bool.true_or, Bool.not_true, Bool.not_false, Bool.and_true, Bool.true_and, Bool.and_false, Bool.false_and, cond_true, cond_false, List.length_nil, List.length_cons, Nat.zero_add, Nat.reduceAdd, ble_zero, bg1, bg2, bg3, bg4, bg5, bg6, bg7, bg8, bg9, bg10, bg11, bg12, bg13, bg14, bg15, resP]
theorem row_run {t : TB} (b : Tb t) (is : List Nat) (h : Nat) (hi : ∀ i ∈ is, i < t.rows.length) (hh : h < t.size) (hl : is.length < 40) (μ : Mem) : run prog 28 33 [worldP t, stP h, .lst (is.map (deedP t))] μ = .ok (resP (own t is (some h, []))) μ := by
  have hp : (f_do_row.pure && noRefs [worldP t, stP h, .lst (is.map (deedP t))]) = true := by
    simp only [noRefs, noref_world, noRef, norefs_deeds, Bool.and_self]; rfl
  refine run_pure (σ := [some (worldP t), some (stP h), some (.lst (is.map (deedP t))), none]) fn_do_row hp rfl rfl rfl ?_
  have h1 := b.chk h hh []
  have h2 := rd_run b is h hi hh (by omega) []
  have h3 : run prog 27 3 [.lst (is.map (deedP t))] [] = .ok (.bl true) [] := by
    refine run_pure (σ := [some (.lst (is.map (deedP t)))]) fn_is_list (by simp only [noRefs, noRef, norefs_deeds, Bool.and_self]; rfl) rfl rfl rfl ?_
    simp only [f_is_list, r_var, k_var, r_gl, r_non, r_bl, r_int, r_str, o_Bin2, x_Bin2, o_Bin, x_Bin, r_bin, o_Cmp2, x_Cmp2, o_Cmp, x_Cmp, r_cmp, o_Chn4, x_Chn4, o_Chn3, o_Chn2, o_Chn, x_Chn, r_chn, r_conj, r_disj, o_And, o_Or, r_And1, r_And2, r_And3, r_Or1, r_Or2, r_Or3, o_Not, r_not, o_Neg, r_neg, o_Ife, r_ife, o_Idx2, x_Idx2, o_Idx, x_Idx, r_idx, o_Slc3, o_Slc2, o_Slc, r_slc, r_pt0, o_Pt, r_pt1, o_EL2, o_EL, x_EL, x_EL2, r_nil, r_cons, o_St2, o_St1, o_St, r_star, o_Tup, x_Tup, o_Lst, x_Lst, r_tup, r_lst, r_dct, o_Bf1, x_Bf1, r_bf1, o_Bf22, x_Bf22, o_Bf2, x_Bf2, r_bf2, o_IsT, x_IsT, r_isT, o_Call, x_Call, r_call, o_CK2, o_CK, r_callK, o_Mth2, o_Mth1, o_Mth, r_mth, o_Turn2, o_Turn, o_Lc3, o_Lc2, r_lc_rng1, r_lc_rng2, r_lc_enu, r_lc_zip, r_all0, o_All, r_all1, o_Over, r_over, o_Rng1, r_rng1, o_Rng22, o_Rng2, r_rng2, r_sl0, r_sl, o_Seq, o_SeqR, o_SeqX, o_SeqC, o_Asg, x_Asg, r_asg, o_AT2, o_AT, r_asgT, o_Ret, x_Ret, r_ret, o_Expr, x_Expr, r_expr, o_Raise, r_raise, o_If, x_If, r_if, o_For, r_for, o_Sx3, o_Sx2, o_Sx, r_setx, r_doc, m_and, m_or, opt_some, okB_some, okI_some, newL_f, ofNat_toNat, map_some, List.getElem?_cons_zero, List.getElem?_cons_succ, List.set, bf1, Nat.reduceBEq, Bool.or_false, Bool.false_or, Bool.or_true, Bool.true_or, Bool.not_true, Bool.not_false, Bool.and_true, Bool.true_and, Bool.and_false, Bool.false_and, cond_true, cond_false, List.length_nil, List.length_cons, Nat.zero_add, Nat.reduceAdd, ble_zero, bg1, bg2, bg3, bg4, bg5, bg6, bg7, bg8, bg9, bg10, bg11, bg12, bg13, bg14, bg15, isT_two, kind_lst, k_lst, k_tup]
  have h4 : decide ((40 : Int) < Int.ofNat (is.map (deedP t)).length) = false := decide_eq_false (by rw [List.length_map]; simp only [Int.ofNat_eq_natCast]; omega)
  have h5 : prog.G[6]? = some (PV.int 40) := rfl
  have h6 : ∀ xs : List PV, xs.filterMap (fun _ => some (PV.bl true)) = (List.replicate xs.length true).map PV.bl := by
    intro xs
    induction xs with
    | nil => rfl
    | cons x xs ih => rw [List.filterMap_cons, ih]; rfl
  have h7 : ∀ n : Nat, (List.replicate n true).all id = true := by
    intro n; simp
  have hlk : lockQ (.over (.var 2)) [some (worldP t), some (stP h), some (.lst (is.map (deedP t))), none] [] = none := rfl
  have hlc : lcGo (lcBody prog.G (run prog 27) [3] (.nm 3) .nil (.call 28 (.cons (.var 0) (.cons (.var 3) .nil))) [some (worldP t), some (stP h), some (.lst (is.map (deedP t))), none]) big (.its (is.map (deedP t))) [] [] = .ok ((List.replicate is.length true).map PV.bl) [] := by
    rw [lc_its (fun _ => some (.bl true)) (by rw [List.length_map]; omega) (fun x hx => by
      obtain ⟨i, hm, rfl⟩ := List.mem_map.mp hx
      have hd := b.deed i (hi i hm) []
      rw [turn_eq (σ' := [some (worldP t), some (stP h), some (.lst (is.map (deedP t))), some (deedP t i)]) rfl]
      simp only [r_var, k_var, r_gl, r_non, r_bl, r_int, r_str, o_Bin2, x_Bin2, o_Bin, x_Bin, r_bin, o_Cmp2, x_Cmp2, o_Cmp, x_Cmp, r_cmp, o_Chn4, x_Chn4, o_Chn3, o_Chn2, o_Chn, x_Chn, r_chn, r_conj, r_disj, o_And, o_Or, r_And1, r_And2, r_And3, r_Or1, r_Or2, r_Or3, o_Not, r_not, o_Neg, r_neg, o_Ife, r_ife, o_Idx2, x_Idx2, o_Idx, x_Idx, r_idx, o_Slc3, o_Slc2, o_Slc, r_slc, r_pt0, o_Pt, r_pt1, o_EL2, o_EL, x_EL, x_EL2, r_nil, r_cons, o_St2, o_St1, o_St, r_star, o_Tup, x_Tup, o_Lst, x_Lst, r_tup, r_lst, r_dct, o_Bf1, x_Bf1, r_bf1, o_Bf22, x_Bf22, o_Bf2, x_Bf2, r_bf2, o_IsT, x_IsT, r_isT, o_Call, x_Call, r_call, o_CK2, o_CK, r_callK, o_Mth2, o_Mth1, o_Mth, r_mth, o_Turn2, o_Turn, o_Lc3, o_Lc2, r_lc_rng1, r_lc_rng2, r_lc_enu, r_lc_zip, r_all0, o_All, r_all1, o_Over, r_over, o_Rng1, r_rng1, o_Rng22, o_Rng2, r_rng2, r_sl0, r_sl, o_Seq, o_SeqR, o_SeqX, o_SeqC, o_Asg, x_Asg, r_asg, o_AT2, o_AT, r_asgT, o_Ret, x_Ret, r_ret, o_Expr, x_Expr, r_expr, o_Raise, r_raise, o_If, x_If, r_if, o_For, r_for, o_Sx3, o_Sx2, o_Sx, r_setx, r_doc, m_and, m_or, opt_some, okB_some, okI_some, newL_f, ofNat_toNat, map_some, List.getElem?_cons_zero, List.getElem?_cons_succ, List.set, bf1, Nat.reduceBEq, Bool.or_false, Bool.false_or, Bool.or_true, Bool.true_or, Bool.not_true, Bool.not_false, Bool.and_true, Bool.true_and, Bool.and_false, Bool.false_and, cond_true, cond_false, List.length_nil, List.length_cons, Nat.zero_add, Nat.reduceAdd, ble_zero, bg1, bg2, bg3, bg4, bg5, bg6, bg7, bg8, bg9, bg10, bg11, bg12, bg13, bg14, bg15, hd]), h6, List.length_map]
  simp only [f_do_row, r_var, k_var, r_gl, r_non, r_bl, r_int, r_str, o_Bin2, x_Bin2, o_Bin, x_Bin, r_bin, o_Cmp2, x_Cmp2, o_Cmp, x_Cmp, r_cmp, o_Chn4, x_Chn4, o_Chn3, o_Chn2, o_Chn, x_Chn, r_chn, r_conj, r_disj, o_And, o_Or, r_And1, r_And2, r_And3, r_Or1, r_Or2, r_Or3, o_Not, r_not, o_Neg, r_neg, o_Ife, r_ife, o_Idx2, x_Idx2, o_Idx, x_Idx, r_idx, o_Slc3, o_Slc2, o_Slc, r_slc, r_pt0, o_Pt, r_pt1, o_EL2, o_EL, x_EL, x_EL2, r_nil, r_cons, o_St2, o_St1, o_St, r_star, o_Tup, x_Tup, o_Lst, x_Lst, r_tup, r_lst, r_dct, o_Bf1, x_Bf1, r_bf1, o_Bf22, x_Bf22, o_Bf2, x_Bf2, r_bf2, o_IsT, x_IsT, r_isT, o_Call, x_Call, r_call, o_CK2, o_CK, r_callK, o_Mth2, o_Mth1, o_Mth, r_mth, o_Turn2, o_Turn, o_Lc3, o_Lc2, r_lc_rng1, r_lc_rng2, r_lc_enu, r_lc_zip, r_all0, o_All, r_all1, o_Over, r_over, o_Rng1, r_rng1, o_Rng22, o_Rng2, r_rng2, r_sl0, r_sl, o_Seq, o_SeqR, o_SeqX, o_SeqC, o_Asg, x_Asg, r_asg, o_AT2, o_AT, r_asgT, o_Ret, x_Ret, r_ret, o_Expr, x_Expr, r_expr, o_Raise, r_raise, o_If, x_If, r_if, o_For, r_for, o_Sx3, o_Sx2, o_Sx, r_setx, r_doc, m_and, m_or, opt_some, okB_some, okI_some, newL_f, ofNat_toNat, map_some, List.getElem?_cons_zero, List.getElem?_cons_succ, List.set, bf1, Nat.reduceBEq, Bool.or_false, Bool.false_or, Bool.or_true, Bool.true_or, Bool.not_true, Bool.not_false, Bool.and_true, Bool.true_and, Bool.and_false, Bool.false_and, cond_true, cond_false, List.length_nil, List.length_cons, Nat.zero_add, Nat.reduceAdd, ble_zero, bg1, bg2, bg3, bg4, bg5, bg6, bg7, bg8, bg9, bg10, bg11, bg12, bg13, bg14, bg15, h1, h3, len_lst, h5, cmpq, ltq, h4, r_lc hlk, itOver, hlc, allQ, lsR, lsOf, Option.bind, asBls_im, h7, h2, Option.map]
end K77
end HP
set_option Elab.async false
set_option linter.all false
set_option maxRecDepth 10000
set_option maxHeartbeats 1000000
namespace HP
namespace K77
open PySem PySem.Spec PyProof.Rows L2
theorem pick_ok (d n : Nat) (μ : Mem) (e : Int) (xs : List PV) (h : boxOk μ[n]? e) (he : 0 ≤ e ∧ e < 1000) (hm : 0 < xs.length ∧ xs.length < 100) : ∃ (i : Nat) (e' : Int) (bx : MO), i < xs.length ∧ 0 ≤ e' ∧ e' ≤ e + 1 ∧ boxOk (some bx) e' ∧ ∀ p, xs[i]? = some p → run prog (d + 2) 37 [.ref n, .tup xs] μ = .ok p (μ.set n bx) := by
  obtain ⟨x, e', bx, h0, h1, h2, h3, h4, h5⟩ := take_ok d n μ e (Int.ofNat xs.length) h he (by simp only [Int.ofNat_eq_natCast]; omega)
  obtain ⟨i, rfl⟩ : ∃ i : Nat, x = Int.ofNat i := ⟨x.toNat, by simp only [Int.ofNat_eq_natCast]; omega⟩
  have hi : i < xs.length := by simp only [Int.ofNat_eq_natCast] at h1; omega
  refine ⟨i, e', bx, hi, h2, h3, h4, fun p hp => ?_⟩
  have hp2 : xs[i] = p := by rw [List.getElem?_eq_getElem hi] at hp; exact Option.some.inj hp
  rw [run_cut (σ := [some (.ref n), some (.tup xs)]) fn__law_pick rfl rfl rfl rfl]
  have e1 : idxq (.tup xs) (.int (Int.ofNat i)) (μ.set n bx) = some p := by
    show atI xs (Int.ofNat i) = some p
    rw [atI_nat hi, hp2]
  simp only [f__law_pick, r_var, k_var, r_gl, r_non, r_bl, r_int, r_str, o_Bin2, x_Bin2, o_Bin, x_Bin, r_bin, o_Cmp2, x_Cmp2, o_Cmp, x_Cmp, r_cmp, o_Chn4, x_Chn4, o_Chn3, o_Chn2, o_Chn, x_Chn, r_chn, r_conj, r_disj, o_And, o_Or, r_And1, r_And2, r_And3, r_Or1, r_Or2, r_Or3, o_Not, r_not, o_Neg, r_neg, o_Ife, r_ife, o_Idx2, x_Idx2, o_Idx, x_Idx, r_idx, o_Slc3, o_Slc2, o_Slc, r_slc, r_pt0, o_Pt, r_pt1, o_EL2, o_EL, x_EL, x_EL2, r_nil, r_cons, o_St2, o_St1, o_St, r_star, o_Tup, x_Tup, o_Lst, x_Lst, r_tup, r_lst, r_dct, o_Bf1, x_Bf1, r_bf1, o_Bf22, x_Bf22, o_Bf2, x_Bf2, r_bf2, o_IsT, x_IsT, r_isT, o_Call, x_Call, r_call, o_CK2, o_CK, r_callK, o_Mth2, o_Mth1, o_Mth, r_mth, o_Turn2, o_Turn, o_Lc3, o_Lc2, r_lc_rng1, r_lc_rng2, r_lc_enu, r_lc_zip, r_all0, o_All, r_all1, o_Over, r_over, o_Rng1, r_rng1, o_Rng22, o_Rng2, r_rng2, r_sl0, r_sl, o_Seq, o_SeqR, o_SeqX, o_SeqC, o_Asg, x_Asg, r_asg, o_AT2, o_AT, r_asgT, o_Ret, x_Ret, r_ret, o_Expr, x_Expr, r_expr, o_Raise, r_raise, o_If, x_If, r_if, o_For, r_for, o_Sx3, o_Sx2, o_Sx, r_setx, r_doc, m_and, m_or, opt_some, okB_some, okI_some, newL_f, ofNat_toNat, map_some, List.getElem?_cons_zero, List.getElem?_cons_succ, List.set, bf1, Nat.reduceBEq, Bool.or_false, Bool.false_or, Bool.or_true, Bool.true_or, Bool.not_true, Bool.not_false, Bool.and_true, Bool.true_and, Bool.and_false, Bool.false_and, cond_true, cond_false, List.length_nil, List.length_cons, Nat.zero_add, Nat.reduceAdd, ble_zero, bg1, bg2, bg3, bg4, bg5, bg6, bg7, bg8, bg9, bg10, bg11, bg12, bg13, bg14, bg15, len_tup, h5, e1, Fl.fin]
  exact cutS _ _ _ List.length_set
/-- the state of _law_table_right between two turns -/
def trS (n : Nat) (t : TB) (w m b x8 x9 x10 x11 x12 x13 x14 x15 x16 x17 x18 : Option PV) : PSt :=
  [some (.ref n), w, m, b, some (dueP t), some (dueP t), some (worldP t), some (.int (Int.ofNat t.size)), x8, x9, x10, x11, x12, x13, x14, x15, x16, x17, x18, none]
def T1 : S := (.asg 14 (.lc false [19] (.nm 19) (.rng1 (.bin false .Add (.int 1) (.call 36 (.cons (.var 0) (.cons (.int 6) .nil))))) .nil (.tup (.cons (.str [99]) (.cons (.idx (.call 37 (.cons (.var 0) (.cons (.var 4) .nil))) (.int 0)) .nil)))))
def T2 : S := (.asgT (.tup (.cons (.nm 15) (.cons (.nm 10) .nil))) (.tup (.cons (.call 36 (.cons (.var 0) (.cons (.var 7) .nil))) (.cons (.tup .nil) .nil))))
def obody : SL := (.cons (.asg 18 (.ife (.cmp .IsNot (.var 15) .non) (.idx (.idx (.bf1 false .dict (.var 4)) (.var 8)) (.var 15)) .non)) (.cons (.asgT (.tup (.cons (.nm 15) (.cons (.nm 10) .nil))) (.ife (.cmp .Is (.var 18) .non) (.tup (.cons .non (.cons (.var 10) .nil))) (.tup (.cons (.idx (.var 18) (.int 0)) (.cons (.bin false .Add (.var 10) (.tup (.cons (.idx (.var 18) (.int 1)) .nil))) .nil))))) .nil))
def T4 : S := (.for (.tup (.cons (.nm 17) (.cons (.nm 8) .nil))) (.over (.var 14)) obody)
def T5 : S := (.ife (.not (.call 38 (.cons (.call 33 (.cons (.var 6) (.cons (.tup (.cons (.var 16) .nil)) (.cons (.var 14) .nil)))) (.cons (.ife (.cmp .Is (.var 15) .non) .non (.tup (.cons (.tup (.cons (.var 15) .nil)) (.cons (.var 10) .nil)))) .nil)))) (.cons (.ret (.bl false)) .nil) .nil)
def tbody : SL := (.cons T1 (.cons T2 (.cons (.asg 16 (.var 15)) (.cons T4 (.cons T5 .nil)))))
theorem turns_eq : turns = .for (.nm 13) (.rng1 (.int 4)) tbody := rfl
theorem rng_ok {n : Nat} (h : n < 1000000) : rngOk (Int.ofNat n) = true := by
  simp only [rngOk, Bool.and_eq_true, decide_eq_true_eq, Int.ofNat_eq_natCast]; omega
/-- the row of drawn deeds -/
theorem t1_ok {t : TB} (b : Tb t) (n : Nat) (w m bb x8 x9 x10 x11 x12 x13 x14 x15 x16 x17 x18 : Option PV) (μ : Mem) (e : Int) (hn : n < μ.length) (h : boxOk μ[n]? e) (he : 0 ≤ e ∧ e < 900) :
    ∃ (is : List Nat) (bx : MO) (e' : Int), (∀ i ∈ is, i < t.rows.length) ∧ is.length < 10 ∧ boxOk (some bx) e' ∧ 0 ≤ e' ∧ e' ≤ e + 10 ∧
      evS prog.G prog.isSub prog.att (run prog 28) T1 (trS n t w m bb x8 x9 x10 x11 x12 x13 x14 x15 x16 x17 x18) μ = .nx (trS n t w m bb x8 x9 x10 x11 x12 x13 (some (.lst (is.map (deedP t)))) x15 x16 x17 x18) (μ.set n bx) := by
  obtain ⟨x, e1, bx1, h0, h1, h2, h3, h4, h5⟩ := take_ok 27 n μ e 6 h (by omega) (by decide)
  obtain ⟨k, rfl⟩ : ∃ k : Nat, x = Int.ofNat k := ⟨x.toNat, by simp only [Int.ofNat_eq_natCast]; omega⟩
  have hk : k < 6 := by simp only [Int.ofNat_eq_natCast] at h1; omega
  have add1 : (1 : Int) + Int.ofNat k = Int.ofNat (k + 1) := by simp only [Int.ofNat_eq_natCast]; omega
  have len : (IT.rng 0 (k + 1)).ys.length = k + 1 := (rngY_spec (k + 1) 0).1
  obtain ⟨xs, μ2, ⟨is, bx, e2, g1, g2, g3, g4, g5, g6, g7⟩, hlc⟩ := lc_inv (body := lcBody prog.G (run prog 28) [19] (.nm 19) .nil (.tup (.cons (.str [99]) (.cons (.idx (.call 37 (.cons (.var 0) (.cons (.var 4) .nil))) (.int 0)) .nil))) (trS n t w m bb x8 x9 x10 x11 x12 x13 x14 x15 x16 x17 x18))
    (fun r acc μ2 => ∃ (is : List Nat) (bx : MO) (e2 : Int), acc = is.map (deedP t) ∧ (∀ i ∈ is, i < t.rows.length) ∧ is.length + r.length = k + 1 ∧ μ2 = (μ.set n bx1).set n bx ∧ boxOk (some bx) e2 ∧ 0 ≤ e2 ∧ e2 ≤ e1 + is.length)
    (it := .rng 0 (k + 1)) (μ := μ.set n bx1) rfl (by rw [len]; omega) ⟨[], bx1, e1, rfl, (fun i hi => by cases hi), by rw [len]; simp, by rw [List.set_set], h4, h2, by simp⟩
    (fun y r acc μ2 hy ⟨is, bx, e2, g1, g2, g3, g4, g5, g6, g7⟩ => by
      obtain ⟨pre, hpre⟩ := hy
      obtain ⟨j, hj, rfl⟩ := rngY_mem (k + 1) 0 y (by show y ∈ (IT.rng 0 (k + 1)).ys; rw [hpre]; simp)
      have hb2 : boxOk μ2[n]? e2 := by rw [g4, List.getElem?_set_self (by rw [List.length_set]; exact hn)]; exact g5
      simp only [List.length_cons] at g3
      have hrl : 0 < (t.rows.map rowP).length ∧ (t.rows.map rowP).length < 100 := by rw [List.length_map]; exact ⟨b.n1, by have := b.n3; omega⟩
      obtain ⟨i, e3, bx3, q1, q2, q3, q4, q5⟩ := pick_ok 26 n μ2 e2 (t.rows.map rowP) hb2 (by omega) hrl
      rw [List.length_map] at q1
      have hp := q5 (rowP t.rows[i]) (by rw [List.getElem?_map, List.getElem?_eq_getElem q1]; rfl)
      have hidx : ∀ μ, idxq (rowP t.rows[i]) (.int 0) μ = some (.str (nameAt t i)) := fun μ => by
        show some (PV.str t.rows[i].1) = _
        rw [nameAt, List.getD_eq_getElem?_getD, List.getElem?_eq_getElem q1]; rfl
      refine ⟨some (deedP t i), μ2.set n bx3, ?_, is ++ [i], bx3, e3, ?_, ?_, ?_, ?_, q4, q2, ?_⟩
      · rw [turn_eq (σ' := [some (.ref n), w, m, bb, some (dueP t), some (dueP t), some (worldP t), some (.int (Int.ofNat t.size)), x8, x9, x10, x11, x12, x13, x14, x15, x16, x17, x18, some (.int (0 + (j : Int)))]) rfl]
        have hp2 : run prog 28 37 [.ref n, dueP t] μ2 = .ok (rowP t.rows[i]) (μ2.set n bx3) := hp
        simp only [r_var, k_var, r_gl, r_non, r_bl, r_int, r_str, o_Bin2, x_Bin2, o_Bin, x_Bin, r_bin, o_Cmp2, x_Cmp2, o_Cmp, x_Cmp, r_cmp, o_Chn4, x_Chn4, o_Chn3, o_Chn2, o_Chn, x_Chn, r_chn, r_conj, r_disj, o_And, o_Or, r_And1, r_And2, r_And3, r_Or1, r_Or2, r_Or3, o_Not, r_not, o_Neg, r_neg, o_Ife, r_ife, o_Idx2, x_Idx2, o_Idx, x_Idx, r_idx, o_Slc3, o_Slc2, o_Slc, r_slc, r_pt0, o_Pt, r_pt1, o_EL2, o_EL, x_EL, x_EL2, r_nil, r_cons, o_St2, o_St1, o_St, r_star, o_Tup, x_Tup, o_Lst, x_Lst, r_tup, r_lst, r_dct, o_Bf1, x_Bf1, r_bf1, o_Bf22, x_Bf22, o_Bf2, x_Bf2, r_bf2, o_IsT, x_IsT, r_isT, o_Call, x_Call, r_call, o_CK2, o_CK, r_callK, o_Mth2, o_Mth1, o_Mth, r_mth, o_Turn2, o_Turn, o_Lc3, o_Lc2, r_lc_rng1, r_lc_rng2, r_lc_enu, r_lc_zip, r_all0, o_All, r_all1, o_Over, r_over, o_Rng1, r_rng1, o_Rng22, o_Rng2, r_rng2, r_sl0, r_sl, o_Seq, o_SeqR, o_SeqX, o_SeqC, o_Asg, x_Asg, r_asg, o_AT2, o_AT, r_asgT, o_Ret, x_Ret, r_ret, o_Expr, x_Expr, r_expr, o_Raise, r_raise, o_If, x_If, r_if, o_For, r_for, o_Sx3, o_Sx2, o_Sx, r_setx, r_doc, m_and, m_or, opt_some, okB_some, okI_some, newL_f, ofNat_toNat, map_some, List.getElem?_cons_zero, List.getElem?_cons_succ, List.set, bf1, Nat.reduceBEq, Bool.or_false, Bool.false_or, Bool.or_true, Bool.true_or, Bool.not_true, Bool.not_false, Bool.and_true, Bool.true_and, Bool.and_false, Bool.false_and, cond_true, cond_false, List.length_nil, List.length_cons, Nat.zero_add, Nat.reduceAdd, ble_zero, bg1, bg2, bg3, bg4, bg5, bg6, bg7, bg8, bg9, bg10, bg11, bg12, bg13, bg14, bg15, hp2, hidx]
        rfl
      · rw [List.map_append, g1]; rfl
      · intro q hq
        rcases List.mem_append.mp hq with hq | hq
        · exact g2 q hq
        · rw [List.mem_singleton.mp hq]; exact q1
      · simp only [List.length_append, List.length_cons, List.length_nil]; omega
      · simp only [g4, List.set_set]
      · simp only [List.length_append, List.length_cons, List.length_nil]; omega)
  have hlen : is.length = k + 1 := by simpa using g3
  refine ⟨is, bx, e2, g2, by omega, g5, g6, by omega, ?_⟩
  rw [g4, List.set_set] at hlc
  have hlc2 : lcGo (lcBody prog.G (run prog 28) [19] (.nm 19) .nil (.tup (.cons (.str [99]) (.cons (.idx (.call 37 (.cons (.var 0) (.cons (.var 4) .nil))) (.int 0)) .nil))) [some (.ref n), w, m, bb, some (dueP t), some (dueP t), some (worldP t), some (.int (Int.ofNat t.size)), x8, x9, x10, x11, x12, x13, x14, x15, x16, x17, x18, none]) big (.rng 0 (k + 1)) [] (μ.set n bx1) = .ok xs (μ.set n bx) := hlc
  simp only [T1, trS, r_var, k_var, r_gl, r_non, r_bl, r_int, r_str, o_Bin2, x_Bin2, o_Bin, x_Bin, r_bin, o_Cmp2, x_Cmp2, o_Cmp, x_Cmp, r_cmp, o_Chn4, x_Chn4, o_Chn3, o_Chn2, o_Chn, x_Chn, r_chn, r_conj, r_disj, o_And, o_Or, r_And1, r_And2, r_And3, r_Or1, r_Or2, r_Or3, o_Not, r_not, o_Neg, r_neg, o_Ife, r_ife, o_Idx2, x_Idx2, o_Idx, x_Idx, r_idx, o_Slc3, o_Slc2, o_Slc, r_slc, r_pt0, o_Pt, r_pt1, o_EL2, o_EL, x_EL, x_EL2, r_nil, r_cons, o_St2, o_St1, o_St, r_star, o_Tup, x_Tup, o_Lst, x_Lst, r_tup, r_lst, r_dct, o_Bf1, x_Bf1, r_bf1, o_Bf22, x_Bf22, o_Bf2, x_Bf2, r_bf2, o_IsT, x_IsT, r_isT, o_Call, x_Call, r_call, o_CK2, o_CK, r_callK, o_Mth2, o_Mth1, o_Mth, r_mth, o_Turn2, o_Turn, o_Lc3, o_Lc2, r_lc_rng1, r_lc_rng2, r_lc_enu, r_lc_zip, r_all0, o_All, r_all1, o_Over, r_over, o_Rng1, r_rng1, o_Rng22, o_Rng2, r_rng2, r_sl0, r_sl, o_Seq, o_SeqR, o_SeqX, o_SeqC, o_Asg, x_Asg, r_asg, o_AT2, o_AT, r_asgT, o_Ret, x_Ret, r_ret, o_Expr, x_Expr, r_expr, o_Raise, r_raise, o_If, x_If, r_if, o_For, r_for, o_Sx3, o_Sx2, o_Sx, r_setx, r_doc, m_and, m_or, opt_some, okB_some, okI_some, newL_f, ofNat_toNat, map_some, List.getElem?_cons_zero, List.getElem?_cons_succ, List.set, bf1, Nat.reduceBEq, Bool.or_false, Bool.false_or, Bool.or_true, Bool.true_or, Bool.not_true, Bool.not_false, Bool.and_true, Bool.true_and, Bool.and_false, Bool.false_and, cond_true, cond_false, List.length_nil, List.length_cons, Nat.zero_add, Nat.reduceAdd, ble_zero, bg1, bg2, bg3, bg4, bg5, bg6, bg7, bg8, bg9, bg10, bg11, bg12, bg13, bg14, bg15, h5, add_ii, add1, rng_ok (show k + 1 < 1000000 by omega), hlc2, g1]
def hereP : Option Nat → PV
  | none => .non
  | some h => .int (Int.ofNat h)
/-- one deed, by own reading -/
theorem o_step {t : TB} (b : Tb t) {i : Nat} (hi : i < t.rows.length) (s : Option Nat × List Int) (hs : ∀ h, s.1 = some h → h < t.size) (hl : s.2.length < 1000) (n : Nat) (w m bb x9 x11 x12 x13 x14 x16 x18 : Option PV) (μ : Mem) :
    (∀ h, (stepO t s i).1 = some h → h < t.size) ∧ ∃ x18', evSL prog.G prog.isSub prog.att (run prog 28) obody (trS n t w m bb (some (.str (nameAt t i))) x9 (some (.tup (s.2.map PV.int))) x11 x12 x13 x14 (some (hereP s.1)) x16 (some (.str [99])) x18) μ =
      .nx (trS n t w m bb (some (.str (nameAt t i))) x9 (some (.tup ((stepO t s i).2.map PV.int))) x11 x12 x13 x14 (some (hereP (stepO t s i).1)) x16 (some (.str [99])) x18') μ := by
  have hd : ∀ μ, bf1 false .dict (dueP t) μ = .ok (.dct (dctP t)) μ := fun μ => by
    have hp : ∀ rows : List (List Nat × List (Option (Nat × Nat))), asPrs (rows.map rowP) = some (rows.map fun r => (PV.str r.1, PV.tup (r.2.map itP))) := by
      intro rows
      induction rows with
      | nil => rfl
      | cons r rows ih => simp only [List.map, asPrs, ih, rowP, asPair, isKey, if_true, Option.map]
    simp only [bf1, dictQ, dueP, dkOf, sqR, hp, newD, dctP]
    rfl
  have b1 : Nat.ble (s.2.length + 1) big = true := Nat.ble_eq_true_of_le (by have : big = 16777216 := rfl; omega)
  obtain ⟨s1, l⟩ := s
  cases s1 with
  | none =>
    refine ⟨(fun h e => by cases e), ⟨some .non, ?_⟩⟩
    have n0 : isNon (hereP none) = true := rfl
    simp only [obody, trS, r_var, k_var, r_gl, r_non, r_bl, r_int, r_str, o_Bin2, x_Bin2, o_Bin, x_Bin, r_bin, o_Cmp2, x_Cmp2, o_Cmp, x_Cmp, r_cmp, o_Chn4, x_Chn4, o_Chn3, o_Chn2, o_Chn, x_Chn, r_chn, r_conj, r_disj, o_And, o_Or, r_And1, r_And2, r_And3, r_Or1, r_Or2, r_Or3, o_Not, r_not, o_Neg, r_neg, o_Ife, r_ife, o_Idx2, x_Idx2, o_Idx, x_Idx, r_idx, o_Slc3, o_Slc2, o_Slc, r_slc, r_pt0, o_Pt, r_pt1, o_EL2, o_EL, x_EL, x_EL2, r_nil, r_cons, o_St2, o_St1, o_St, r_star, o_Tup, x_Tup, o_Lst, x_Lst, r_tup, r_lst, r_dct, o_Bf1, x_Bf1, r_bf1, o_Bf22, x_Bf22, o_Bf2, x_Bf2, r_bf2, o_IsT, x_IsT, r_isT, o_Call, x_Call, r_call, o_CK2, o_CK, r_callK, o_Mth2, o_Mth1, o_Mth, r_mth, o_Turn2, o_Turn, o_Lc3, o_Lc2, r_lc_rng1, r_lc_rng2, r_lc_enu, r_lc_zip, r_all0, o_All, r_all1, o_Over, r_over, o_Rng1, r_rng1, o_Rng22, o_Rng2, r_rng2, r_sl0, r_sl, o_Seq, o_SeqR, o_SeqX, o_SeqC, o_Asg, x_Asg, r_asg, o_AT2, o_AT, r_asgT, o_Ret, x_Ret, r_ret, o_Expr, x_Expr, r_expr, o_Raise, r_raise, o_If, x_If, r_if, o_For, r_for, o_Sx3, o_Sx2, o_Sx, r_setx, r_doc, m_and, m_or, opt_some, okB_some, okI_some, newL_f, ofNat_toNat, map_some, List.getElem?_cons_zero, List.getElem?_cons_succ, List.set, bf1, Nat.reduceBEq, Bool.or_false, Bool.false_or, Bool.or_true, Bool.true_or, Bool.not_true, Bool.not_false, Bool.and_true, Bool.true_and, Bool.and_false, Bool.false_and, cond_true, cond_false, List.length_nil, List.length_cons, Nat.zero_add, Nat.reduceAdd, ble_zero, bg1, bg2, bg3, bg4, bg5, bg6, bg7, bg8, bg9, bg10, bg11, bg12, bg13, bg14, bg15, cmpq, isq_non, n0, non_non, bindT, bindTs, stepO]
    rfl
  | some h =>
    have hh := hs h rfl
    have ho := b.own i h hi hh μ
    have n1 : isNon (hereP (some h)) = false := rfl
    have e1 : hereP (some h) = .int (Int.ofNat h) := rfl
    cases hq : idxq (.dct (dctP t)) (.str (nameAt t i)) μ with
    | none => rw [hq] at ho; cases ho
    | some its =>
      rw [hq] at ho
      have ho : idxq its (.int (Int.ofNat h)) μ = some (itP (T t i h)) := ho
      have p1 : evSL prog.G prog.isSub prog.att (run prog 28) obody (trS n t w m bb (some (.str (nameAt t i))) x9 (some (.tup (l.map PV.int))) x11 x12 x13 x14 (some (hereP (some h))) x16 (some (.str [99])) x18) μ =
          evSL prog.G prog.isSub prog.att (run prog 28) (.cons (.asgT (.tup (.cons (.nm 15) (.cons (.nm 10) .nil))) (.ife (.cmp .Is (.var 18) .non) (.tup (.cons .non (.cons (.var 10) .nil))) (.tup (.cons (.idx (.var 18) (.int 0)) (.cons (.bin false .Add (.var 10) (.tup (.cons (.idx (.var 18) (.int 1)) .nil))) .nil))))) .nil) (trS n t w m bb (some (.str (nameAt t i))) x9 (some (.tup (l.map PV.int))) x11 x12 x13 x14 (some (hereP (some h))) x16 (some (.str [99])) (some (itP (T t i h)))) μ := by
        have hd := hd μ
        simp only [bf1] at hd
        rw [obody, r_sl]
        simp only [trS, r_asg, r_ife, r_cmp, r_var, k_var, o_Cmp, r_non, o_Cmp2, cmpq, isq_non, n1, non_int, map_some, okB_some, o_Ife, Bool.not_false, cond_true, r_idx, r_bf1, o_Bf1, bf1, hd, o_Idx, o_Idx2, hq, e1, ho, opt_some, o_Asg, List.set, o_Seq, List.getElem?_cons_zero, List.getElem?_cons_succ]
      rw [p1]
      cases e : T t i h with
      | none =>
        refine ⟨(fun h' e' => by simp only [stepO, e] at e'; cases e'), ⟨some .non, ?_⟩⟩
        have n2 : isNon (itP none) = true := rfl
        simp only [trS, r_var, k_var, r_gl, r_non, r_bl, r_int, r_str, o_Bin2, x_Bin2, o_Bin, x_Bin, r_bin, o_Cmp2, x_Cmp2, o_Cmp, x_Cmp, r_cmp, o_Chn4, x_Chn4, o_Chn3, o_Chn2, o_Chn, x_Chn, r_chn, r_conj, r_disj, o_And, o_Or, r_And1, r_And2, r_And3, r_Or1, r_Or2, r_Or3, o_Not, r_not, o_Neg, r_neg, o_Ife, r_ife, o_Idx2, x_Idx2, o_Idx, x_Idx, r_idx, o_Slc3, o_Slc2, o_Slc, r_slc, r_pt0, o_Pt, r_pt1, o_EL2, o_EL, x_EL, x_EL2, r_nil, r_cons, o_St2, o_St1, o_St, r_star, o_Tup, x_Tup, o_Lst, x_Lst, r_tup, r_lst, r_dct, o_Bf1, x_Bf1, r_bf1, o_Bf22, x_Bf22, o_Bf2, x_Bf2, r_bf2, o_IsT, x_IsT, r_isT, o_Call, x_Call, r_call, o_CK2, o_CK, r_callK, o_Mth2, o_Mth1, o_Mth, r_mth, o_Turn2, o_Turn, o_Lc3, o_Lc2, r_lc_rng1, r_lc_rng2, r_lc_enu, r_lc_zip, r_all0, o_All, r_all1, o_Over, r_over, o_Rng1, r_rng1, o_Rng22, o_Rng2, r_rng2, r_sl0, r_sl, o_Seq, o_SeqR, o_SeqX, o_SeqC, o_Asg, x_Asg, r_asg, o_AT2, o_AT, r_asgT, o_Ret, x_Ret, r_ret, o_Expr, x_Expr, r_expr, o_Raise, r_raise, o_If, x_If, r_if, o_For, r_for, o_Sx3, o_Sx2, o_Sx, r_setx, r_doc, m_and, m_or, opt_some, okB_some, okI_some, newL_f, ofNat_toNat, map_some, List.getElem?_cons_zero, List.getElem?_cons_succ, List.set, bf1, Nat.reduceBEq, Bool.or_false, Bool.false_or, Bool.or_true, Bool.true_or, Bool.not_true, Bool.not_false, Bool.and_true, Bool.true_and, Bool.and_false, Bool.false_and, cond_true, cond_false, List.length_nil, List.length_cons, Nat.zero_add, Nat.reduceAdd, ble_zero, bg1, bg2, bg3, bg4, bg5, bg6, bg7, bg8, bg9, bg10, bg11, bg12, bg13, bg14, bg15, cmpq, isq_non, n2, bindT, bindTs, stepO, e]
        rfl
      | some p =>
        obtain ⟨a, c⟩ := p
        refine ⟨(fun h' e' => by simp only [stepO, e] at e'; cases e'; exact b.lt i h _ c hi hh e), ⟨some (itP (some (a, c))), ?_⟩⟩
        have n2 : isNon (itP (some (a, c))) = false := rfl
        have h0 : ∀ μ, idxq (itP (some (a, c))) (.int 0) μ = some (.int (Int.ofNat a)) := fun μ => rfl
        have h1 : ∀ μ, idxq (itP (some (a, c))) (.int 1) μ = some (.int (Int.ofNat c)) := fun μ => rfl
        have hb : ∀ μ, bin false .Add (.tup (l.map PV.int)) (.tup [.int (Int.ofNat c)]) μ = .ok (.tup ((l ++ [Int.ofNat c]).map PV.int)) μ := fun μ => by
          show (if Nat.ble ((l.map PV.int).length + 1) big then R.ok (PV.tup (l.map PV.int ++ [.int (Int.ofNat c)])) μ else .bad) = _
          rw [List.length_map, b1, List.map_append]
          rfl
        simp only [trS, r_var, k_var, r_gl, r_non, r_bl, r_int, r_str, o_Bin2, x_Bin2, o_Bin, x_Bin, r_bin, o_Cmp2, x_Cmp2, o_Cmp, x_Cmp, r_cmp, o_Chn4, x_Chn4, o_Chn3, o_Chn2, o_Chn, x_Chn, r_chn, r_conj, r_disj, o_And, o_Or, r_And1, r_And2, r_And3, r_Or1, r_Or2, r_Or3, o_Not, r_not, o_Neg, r_neg, o_Ife, r_ife, o_Idx2, x_Idx2, o_Idx, x_Idx, r_idx, o_Slc3, o_Slc2, o_Slc, r_slc, r_pt0, o_Pt, r_pt1, o_EL2, o_EL, x_EL, x_EL2, r_nil, r_cons, o_St2, o_St1, o_St, r_star, o_Tup, x_Tup, o_Lst, x_Lst, r_tup, r_lst, r_dct, o_Bf1, x_Bf1, r_bf1, o_Bf22, x_Bf22, o_Bf2, x_Bf2, r_bf2, o_IsT, x_IsT, r_isT, o_Call, x_Call, r_call, o_CK2, o_CK, r_callK, o_Mth2, o_Mth1, o_Mth, r_mth, o_Turn2, o_Turn, o_Lc3, o_Lc2, r_lc_rng1, r_lc_rng2, r_lc_enu, r_lc_zip, r_all0, o_All, r_all1, o_Over, r_over, o_Rng1, r_rng1, o_Rng22, o_Rng2, r_rng2, r_sl0, r_sl, o_Seq, o_SeqR, o_SeqX, o_SeqC, o_Asg, x_Asg, r_asg, o_AT2, o_AT, r_asgT, o_Ret, x_Ret, r_ret, o_Expr, x_Expr, r_expr, o_Raise, r_raise, o_If, x_If, r_if, o_For, r_for, o_Sx3, o_Sx2, o_Sx, r_setx, r_doc, m_and, m_or, opt_some, okB_some, okI_some, newL_f, ofNat_toNat, map_some, List.getElem?_cons_zero, List.getElem?_cons_succ, List.set, bf1, Nat.reduceBEq, Bool.or_false, Bool.false_or, Bool.or_true, Bool.true_or, Bool.not_true, Bool.not_false, Bool.and_true, Bool.true_and, Bool.and_false, Bool.false_and, cond_true, cond_false, List.length_nil, List.length_cons, Nat.zero_add, Nat.reduceAdd, ble_zero, bg1, bg2, bg3, bg4, bg5, bg6, bg7, bg8, bg9, bg10, bg11, bg12, bg13, bg14, bg15, cmpq, isq_non, n2, bindT, bindTs, stepO, e, h0, h1, hb]
        rfl
theorem stepO_len (t : TB) (s : Option Nat × List Int) (i : Nat) : (stepO t s i).2.length ≤ s.2.length + 1 := by
  obtain ⟨s1, l⟩ := s
  cases s1 with
  | none => exact Nat.le_succ _
  | some h =>
    simp only [stepO]
    split
    · exact Nat.le_succ _
    · rw [List.length_append]; exact Nat.le_refl _
theorem t4_ok {t : TB} (b : Tb t) (is : List Nat) (hi : ∀ i ∈ is, i < t.rows.length) (hl : is.length < 10) (h0 : Nat) (hh : h0 < t.size) (n : Nat) (w m bb x8 x9 x11 x12 x13 x16 x17 x18 : Option PV) (μ : Mem) :
    ∃ x8' x17' x18', evS prog.G prog.isSub prog.att (run prog 28) T4 (trS n t w m bb x8 x9 (some (.tup [])) x11 x12 x13 (some (.lst (is.map (deedP t)))) (some (.int (Int.ofNat h0))) x16 x17 x18) μ =
      .nx (trS n t w m bb x8' x9 (some (.tup ((own t is (some h0, [])).2.map PV.int))) x11 x12 x13 (some (.lst (is.map (deedP t)))) (some (hereP (own t is (some h0, [])).1)) x16 x17' x18') μ := by
  obtain ⟨σ', μ', ⟨⟨x8', x17', x18', e1⟩, e2, _, _⟩, hf⟩ := for_items (tg := .tup (.cons (.nm 17) (.cons (.nm 8) .nil))) (body := evSL prog.G prog.isSub prog.att (run prog 28) obody)
    (fun k σ μ1 => (∃ x8 x17 x18, σ = trS n t w m bb x8 x9 (some (.tup ((own t (is.take k) (some h0, [])).2.map PV.int))) x11 x12 x13 (some (.lst (is.map (deedP t)))) (some (hereP (own t (is.take k) (some h0, [])).1)) x16 x17 x18) ∧ μ1 = μ ∧ (∀ h, (own t (is.take k) (some h0, [])).1 = some h → h < t.size) ∧ (own t (is.take k) (some h0, [])).2.length ≤ k)
    (is.map (deedP t)) (by rw [List.length_map]; omega)
    (fun k x σ μ1 hx ⟨⟨x8, x17, x18, e1⟩, e2, e3, e4⟩ => by
      rw [List.getElem?_map] at hx
      cases hk : is[k]? with
      | none => rw [hk] at hx; cases hx
      | some i =>
        rw [hk] at hx
        cases hx
        have hklt : k < is.length := (List.getElem?_eq_some_iff.mp hk).1
        have hik : is[k] = i := (List.getElem?_eq_some_iff.mp hk).2
        have htake : is.take (k + 1) = is.take k ++ [i] := by rw [List.take_succ, hk]; rfl
        have hown : own t (is.take (k + 1)) (some h0, []) = stepO t (own t (is.take k) (some h0, [])) i := by
          rw [htake, own, List.foldl_append]; rfl
        obtain ⟨z1, x18', z2⟩ := o_step b (hi i (by rw [← hik]; exact List.getElem_mem hklt)) (own t (is.take k) (some h0, [])) e3 (by omega) n w m bb x9 x11 x12 x13 (some (.lst (is.map (deedP t)))) x16 x18 μ1
        refine ⟨_, _, μ1, ?_, z2, ⟨_, _, _, by rw [hown]⟩, e2, by rw [hown]; exact z1, ?_⟩
        · rw [e1]; rfl
        · rw [hown]
          have := stepO_len t (own t (is.take k) (some h0, [])) i
          omega)
    (σ := trS n t w m bb x8 x9 (some (.tup [])) x11 x12 x13 (some (.lst (is.map (deedP t)))) (some (.int (Int.ofNat h0))) x16 x17 x18) (μ := μ)
    ⟨⟨x8, x17, x18, rfl⟩, rfl, (fun h e => by cases e; exact hh), Nat.le_refl _⟩
  refine ⟨x8', x17', x18', ?_⟩
  rw [List.length_map, List.take_length] at e1
  rw [e2] at hf
  rw [← e1, ← hf]
  simp only [T4, trS, r_for, r_over, r_var, k_var, o_Over, itOver, opt_some, o_For, List.getElem?_cons_zero, List.getElem?_cons_succ]
end K77
end HP
set_option Elab.async false
set_option linter.all false
set_option maxRecDepth 10000
set_option maxHeartbeats 1000000
namespace HP
namespace K77
open PySem PySem.Spec PyProof.Rows L2
theorem t5_ok {t : TB} (b : Tb t) (is : List Nat) (hi : ∀ i ∈ is, i < t.rows.length) (hl : is.length < 10) (h0 : Nat) (hh : h0 < t.size) (s : Option Nat × List Int) (hs : own t is (some h0, []) = s) (hsl : s.2.length < 1000) (n : Nat) (w m bb x8 x9 x11 x12 x13 x17 x18 : Option PV) (μ : Mem) :
    evS prog.G prog.isSub prog.att (run prog 28) T5 (trS n t w m bb x8 x9 (some (.tup (s.2.map PV.int))) x11 x12 x13 (some (.lst (is.map (deedP t)))) (some (hereP s.1)) (some (.int (Int.ofNat h0))) x17 x18) μ =
      .nx (trS n t w m bb x8 x9 (some (.tup (s.2.map PV.int))) x11 x12 x13 (some (.lst (is.map (deedP t)))) (some (hereP s.1)) (some (.int (Int.ofNat h0))) x17 x18) μ := by
  have hr := row_run b is h0 hi hh (by omega) μ
  rw [hs] at hr
  have hok : okV μ 3 (resP s) = true := by
    obtain ⟨s1, l⟩ := s
    have hsl : l.length < 1000 := hsl
    cases s1 with
    | none => rfl
    | some h =>
      have ha : (l.map PV.int).all (okV μ 1) = true := by
        rw [List.all_eq_true]
        intro x hx
        obtain ⟨i, _, rfl⟩ := List.mem_map.mp hx
        rfl
      have hb : Nat.blt (l.map PV.int).length 1000000 = true := by rw [List.length_map]; simp [Nat.blt_eq]; omega
      simp only [resP, okV, List.all_cons, List.all_nil, stP, ha, hb, Bool.and_true, Bool.true_and, List.length_cons, List.length_nil]
      rfl
  have hsm := same_refl 3 (resP s) μ hok 27 (by decide)
  have hst : stP h0 = .tup [.int (Int.ofNat h0)] := rfl
  rw [hst] at hr
  have hx : evE prog.G (run prog 28) (.ife (.cmp .Is (.var 15) .non) .non (.tup (.cons (.tup (.cons (.var 15) .nil)) (.cons (.var 10) .nil)))) (trS n t w m bb x8 x9 (some (.tup (s.2.map PV.int))) x11 x12 x13 (some (.lst (is.map (deedP t)))) (some (hereP s.1)) (some (.int (Int.ofNat h0))) x17 x18) μ = .ok (resP s) μ := by
    obtain ⟨s1, l⟩ := s
    cases s1 with
    | none =>
      have n0 : isNon (hereP none) = true := rfl
      simp only [trS, r_var, k_var, r_gl, r_non, r_bl, r_int, r_str, o_Bin2, x_Bin2, o_Bin, x_Bin, r_bin, o_Cmp2, x_Cmp2, o_Cmp, x_Cmp, r_cmp, o_Chn4, x_Chn4, o_Chn3, o_Chn2, o_Chn, x_Chn, r_chn, r_conj, r_disj, o_And, o_Or, r_And1, r_And2, r_And3, r_Or1, r_Or2, r_Or3, o_Not, r_not, o_Neg, r_neg, o_Ife, r_ife, o_Idx2, x_Idx2, o_Idx, x_Idx, r_idx, o_Slc3, o_Slc2, o_Slc, r_slc, r_pt0, o_Pt, r_pt1, o_EL2, o_EL, x_EL, x_EL2, r_nil, r_cons, o_St2, o_St1, o_St, r_star, o_Tup, x_Tup, o_Lst, x_Lst, r_tup, r_lst, r_dct, o_Bf1, x_Bf1, r_bf1, o_Bf22, x_Bf22, o_Bf2, x_Bf2, r_bf2, o_IsT, x_IsT, r_isT, o_Call, x_Call, r_call, o_CK2, o_CK, r_callK, o_Mth2, o_Mth1, o_Mth, r_mth, o_Turn2, o_Turn, o_Lc3, o_Lc2, r_lc_rng1, r_lc_rng2, r_lc_enu, r_lc_zip, r_all0, o_All, r_all1, o_Over, r_over, o_Rng1, r_rng1, o_Rng22, o_Rng2, r_rng2, r_sl0, r_sl, o_Seq, o_SeqR, o_SeqX, o_SeqC, o_Asg, x_Asg, r_asg, o_AT2, o_AT, r_asgT, o_Ret, x_Ret, r_ret, o_Expr, x_Expr, r_expr, o_Raise, r_raise, o_If, x_If, r_if, o_For, r_for, o_Sx3, o_Sx2, o_Sx, r_setx, r_doc, m_and, m_or, opt_some, okB_some, okI_some, newL_f, ofNat_toNat, map_some, List.getElem?_cons_zero, List.getElem?_cons_succ, List.set, bf1, Nat.reduceBEq, Bool.or_false, Bool.false_or, Bool.or_true, Bool.true_or, Bool.not_true, Bool.not_false, Bool.and_true, Bool.true_and, Bool.and_false, Bool.false_and, cond_true, cond_false, List.length_nil, List.length_cons, Nat.zero_add, Nat.reduceAdd, ble_zero, bg1, bg2, bg3, bg4, bg5, bg6, bg7, bg8, bg9, bg10, bg11, bg12, bg13, bg14, bg15, cmpq, isq_non, n0, resP]
    | some h =>
      have n1 : isNon (hereP (some h)) = false := rfl
      simp only [trS, r_var, k_var, r_gl, r_non, r_bl, r_int, r_str, o_Bin2, x_Bin2, o_Bin, x_Bin, r_bin, o_Cmp2, x_Cmp2, o_Cmp, x_Cmp, r_cmp, o_Chn4, x_Chn4, o_Chn3, o_Chn2, o_Chn, x_Chn, r_chn, r_conj, r_disj, o_And, o_Or, r_And1, r_And2, r_And3, r_Or1, r_Or2, r_Or3, o_Not, r_not, o_Neg, r_neg, o_Ife, r_ife, o_Idx2, x_Idx2, o_Idx, x_Idx, r_idx, o_Slc3, o_Slc2, o_Slc, r_slc, r_pt0, o_Pt, r_pt1, o_EL2, o_EL, x_EL, x_EL2, r_nil, r_cons, o_St2, o_St1, o_St, r_star, o_Tup, x_Tup, o_Lst, x_Lst, r_tup, r_lst, r_dct, o_Bf1, x_Bf1, r_bf1, o_Bf22, x_Bf22, o_Bf2, x_Bf2, r_bf2, o_IsT, x_IsT, r_isT, o_Call, x_Call, r_call, o_CK2, o_CK, r_callK, o_Mth2, o_Mth1, o_Mth, r_mth, o_Turn2, o_Turn, o_Lc3, o_Lc2, r_lc_rng1, r_lc_rng2, r_lc_enu, r_lc_zip, r_all0, o_All, r_all1, o_Over, r_over, o_Rng1, r_rng1, o_Rng22, o_Rng2, r_rng2, r_sl0, r_sl, o_Seq, o_SeqR, o_SeqX, o_SeqC, o_Asg, x_Asg, r_asg, o_AT2, o_AT, r_asgT, o_Ret, x_Ret, r_ret, o_Expr, x_Expr, r_expr, o_Raise, r_raise, o_If, x_If, r_if, o_For, r_for, o_Sx3, o_Sx2, o_Sx, r_setx, r_doc, m_and, m_or, opt_some, okB_some, okI_some, newL_f, ofNat_toNat, map_some, List.getElem?_cons_zero, List.getElem?_cons_succ, List.set, bf1, Nat.reduceBEq, Bool.or_false, Bool.false_or, Bool.or_true, Bool.true_or, Bool.not_true, Bool.not_false, Bool.and_true, Bool.true_and, Bool.and_false, Bool.false_and, cond_true, cond_false, List.length_nil, List.length_cons, Nat.zero_add, Nat.reduceAdd, ble_zero, bg1, bg2, bg3, bg4, bg5, bg6, bg7, bg8, bg9, bg10, bg11, bg12, bg13, bg14, bg15, cmpq, isq_non, n1, resP]
      rfl
  have hy : evE prog.G (run prog 28) (.call 33 (.cons (.var 6) (.cons (.tup (.cons (.var 16) .nil)) (.cons (.var 14) .nil)))) (trS n t w m bb x8 x9 (some (.tup (s.2.map PV.int))) x11 x12 x13 (some (.lst (is.map (deedP t)))) (some (hereP s.1)) (some (.int (Int.ofNat h0))) x17 x18) μ = .ok (resP s) μ := by
    simp only [trS, r_var, k_var, r_gl, r_non, r_bl, r_int, r_str, o_Bin2, x_Bin2, o_Bin, x_Bin, r_bin, o_Cmp2, x_Cmp2, o_Cmp, x_Cmp, r_cmp, o_Chn4, x_Chn4, o_Chn3, o_Chn2, o_Chn, x_Chn, r_chn, r_conj, r_disj, o_And, o_Or, r_And1, r_And2, r_And3, r_Or1, r_Or2, r_Or3, o_Not, r_not, o_Neg, r_neg, o_Ife, r_ife, o_Idx2, x_Idx2, o_Idx, x_Idx, r_idx, o_Slc3, o_Slc2, o_Slc, r_slc, r_pt0, o_Pt, r_pt1, o_EL2, o_EL, x_EL, x_EL2, r_nil, r_cons, o_St2, o_St1, o_St, r_star, o_Tup, x_Tup, o_Lst, x_Lst, r_tup, r_lst, r_dct, o_Bf1, x_Bf1, r_bf1, o_Bf22, x_Bf22, o_Bf2, x_Bf2, r_bf2, o_IsT, x_IsT, r_isT, o_Call, x_Call, r_call, o_CK2, o_CK, r_callK, o_Mth2, o_Mth1, o_Mth, r_mth, o_Turn2, o_Turn, o_Lc3, o_Lc2, r_lc_rng1, r_lc_rng2, r_lc_enu, r_lc_zip, r_all0, o_All, r_all1, o_Over, r_over, o_Rng1, r_rng1, o_Rng22, o_Rng2, r_rng2, r_sl0, r_sl, o_Seq, o_SeqR, o_SeqX, o_SeqC, o_Asg, x_Asg, r_asg, o_AT2, o_AT, r_asgT, o_Ret, x_Ret, r_ret, o_Expr, x_Expr, r_expr, o_Raise, r_raise, o_If, x_If, r_if, o_For, r_for, o_Sx3, o_Sx2, o_Sx, r_setx, r_doc, m_and, m_or, opt_some, okB_some, okI_some, newL_f, ofNat_toNat, map_some, List.getElem?_cons_zero, List.getElem?_cons_succ, List.set, bf1, Nat.reduceBEq, Bool.or_false, Bool.false_or, Bool.or_true, Bool.true_or, Bool.not_true, Bool.not_false, Bool.and_true, Bool.true_and, Bool.and_false, Bool.false_and, cond_true, cond_false, List.length_nil, List.length_cons, Nat.zero_add, Nat.reduceAdd, ble_zero, bg1, bg2, bg3, bg4, bg5, bg6, bg7, bg8, bg9, bg10, bg11, bg12, bg13, bg14, bg15, hr]
  rw [T5, r_if, r_not, r_call, r_cons, hy, o_EL, r_cons, hx, o_EL, r_nil, o_EL2, o_EL2, o_Call, hsm, o_Not, o_If, Bool.not_true, cond_false, r_sl0]
/-- a turn -/
theorem turn_ok {t : TB} (b : Tb t) (n : Nat) (w m bb x8 x9 x10 x11 x12 x13 x14 x15 x16 x17 x18 : Option PV) (μ : Mem) (e : Int) (hn : n < μ.length) (h : boxOk μ[n]? e) (he : 0 ≤ e ∧ e < 800) :
    ∃ (bx : MO) (e' : Int) (y8 y10 y14 y15 y16 y17 y18 : Option PV), boxOk (some bx) e' ∧ 0 ≤ e' ∧ e' ≤ e + 11 ∧
      evSL prog.G prog.isSub prog.att (run prog 28) tbody (trS n t w m bb x8 x9 x10 x11 x12 x13 x14 x15 x16 x17 x18) μ = .nx (trS n t w m bb y8 x9 y10 x11 x12 x13 y14 y15 y16 y17 y18) (μ.set n bx) := by
  obtain ⟨is, bx, e1, g1, g2, g3, g4, g5, h1⟩ := t1_ok b n w m bb x8 x9 x10 x11 x12 x13 x14 x15 x16 x17 x18 μ e hn h (by omega)
  have hb1 : boxOk (μ.set n bx)[n]? e1 := by rw [List.getElem?_set_self hn]; exact g3
  obtain ⟨x, e2, bx2, q0, q1, q2, q3, q4, q5⟩ := take_ok 27 n (μ.set n bx) e1 (Int.ofNat t.size) hb1 (by omega) (by have := b.s1; have := b.s6; simp only [Int.ofNat_eq_natCast]; omega)
  obtain ⟨h0, rfl⟩ : ∃ k : Nat, x = Int.ofNat k := ⟨x.toNat, by simp only [Int.ofNat_eq_natCast]; omega⟩
  have hh : h0 < t.size := by simp only [Int.ofNat_eq_natCast] at q1; omega
  rw [List.set_set] at q5
  have h2 : evS prog.G prog.isSub prog.att (run prog 28) T2 (trS n t w m bb x8 x9 x10 x11 x12 x13 (some (.lst (is.map (deedP t)))) x15 x16 x17 x18) (μ.set n bx) = .nx (trS n t w m bb x8 x9 (some (.tup [])) x11 x12 x13 (some (.lst (is.map (deedP t)))) (some (.int (Int.ofNat h0))) x16 x17 x18) (μ.set n bx2) := by
    simp only [T2, trS, r_var, k_var, r_gl, r_non, r_bl, r_int, r_str, o_Bin2, x_Bin2, o_Bin, x_Bin, r_bin, o_Cmp2, x_Cmp2, o_Cmp, x_Cmp, r_cmp, o_Chn4, x_Chn4, o_Chn3, o_Chn2, o_Chn, x_Chn, r_chn, r_conj, r_disj, o_And, o_Or, r_And1, r_And2, r_And3, r_Or1, r_Or2, r_Or3, o_Not, r_not, o_Neg, r_neg, o_Ife, r_ife, o_Idx2, x_Idx2, o_Idx, x_Idx, r_idx, o_Slc3, o_Slc2, o_Slc, r_slc, r_pt0, o_Pt, r_pt1, o_EL2, o_EL, x_EL, x_EL2, r_nil, r_cons, o_St2, o_St1, o_St, r_star, o_Tup, x_Tup, o_Lst, x_Lst, r_tup, r_lst, r_dct, o_Bf1, x_Bf1, r_bf1, o_Bf22, x_Bf22, o_Bf2, x_Bf2, r_bf2, o_IsT, x_IsT, r_isT, o_Call, x_Call, r_call, o_CK2, o_CK, r_callK, o_Mth2, o_Mth1, o_Mth, r_mth, o_Turn2, o_Turn, o_Lc3, o_Lc2, r_lc_rng1, r_lc_rng2, r_lc_enu, r_lc_zip, r_all0, o_All, r_all1, o_Over, r_over, o_Rng1, r_rng1, o_Rng22, o_Rng2, r_rng2, r_sl0, r_sl, o_Seq, o_SeqR, o_SeqX, o_SeqC, o_Asg, x_Asg, r_asg, o_AT2, o_AT, r_asgT, o_Ret, x_Ret, r_ret, o_Expr, x_Expr, r_expr, o_Raise, r_raise, o_If, x_If, r_if, o_For, r_for, o_Sx3, o_Sx2, o_Sx, r_setx, r_doc, m_and, m_or, opt_some, okB_some, okI_some, newL_f, ofNat_toNat, map_some, List.getElem?_cons_zero, List.getElem?_cons_succ, List.set, bf1, Nat.reduceBEq, Bool.or_false, Bool.false_or, Bool.or_true, Bool.true_or, Bool.not_true, Bool.not_false, Bool.and_true, Bool.true_and, Bool.and_false, Bool.false_and, cond_true, cond_false, List.length_nil, List.length_cons, Nat.zero_add, Nat.reduceAdd, ble_zero, bg1, bg2, bg3, bg4, bg5, bg6, bg7, bg8, bg9, bg10, bg11, bg12, bg13, bg14, bg15, q5, bindT, bindTs]
  have h3 : evS prog.G prog.isSub prog.att (run prog 28) (.asg 16 (.var 15)) (trS n t w m bb x8 x9 (some (.tup [])) x11 x12 x13 (some (.lst (is.map (deedP t)))) (some (.int (Int.ofNat h0))) x16 x17 x18) (μ.set n bx2) = .nx (trS n t w m bb x8 x9 (some (.tup [])) x11 x12 x13 (some (.lst (is.map (deedP t)))) (some (.int (Int.ofNat h0))) (some (.int (Int.ofNat h0))) x17 x18) (μ.set n bx2) := by
    simp only [trS, r_var, k_var, r_gl, r_non, r_bl, r_int, r_str, o_Bin2, x_Bin2, o_Bin, x_Bin, r_bin, o_Cmp2, x_Cmp2, o_Cmp, x_Cmp, r_cmp, o_Chn4, x_Chn4, o_Chn3, o_Chn2, o_Chn, x_Chn, r_chn, r_conj, r_disj, o_And, o_Or, r_And1, r_And2, r_And3, r_Or1, r_Or2, r_Or3, o_Not, r_not, o_Neg, r_neg, o_Ife, r_ife, o_Idx2, x_Idx2, o_Idx, x_Idx, r_idx, o_Slc3, o_Slc2, o_Slc, r_slc, r_pt0, o_Pt, r_pt1, o_EL2, o_EL, x_EL, x_EL2, r_nil, r_cons, o_St2, o_St1, o_St, r_star, o_Tup, x_Tup, o_Lst, x_Lst, r_tup, r_lst, r_dct, o_Bf1, x_Bf1, r_bf1, o_Bf22, x_Bf22, o_Bf2, x_Bf2, r_bf2, o_IsT, x_IsT, r_isT, o_Call, x_Call, r_call, o_CK2, o_CK, r_callK, o_Mth2, o_Mth1, o_Mth, r_mth, o_Turn2, o_Turn, o_Lc3, o_Lc2, r_lc_rng1, r_lc_rng2, r_lc_enu, r_lc_zip, r_all0, o_All, r_all1, o_Over, r_over, o_Rng1, r_rng1, o_Rng22, o_Rng2, r_rng2, r_sl0, r_sl, o_Seq, o_SeqR, o_SeqX, o_SeqC, o_Asg, x_Asg, r_asg, o_AT2, o_AT, r_asgT, o_Ret, x_Ret, r_ret, o_Expr, x_Expr, r_expr, o_Raise, r_raise, o_If, x_If, r_if, o_For, r_for, o_Sx3, o_Sx2, o_Sx, r_setx, r_doc, m_and, m_or, opt_some, okB_some, okI_some, newL_f, ofNat_toNat, map_some, List.getElem?_cons_zero, List.getElem?_cons_succ, List.set, bf1, Nat.reduceBEq, Bool.or_false, Bool.false_or, Bool.or_true, Bool.true_or, Bool.not_true, Bool.not_false, Bool.and_true, Bool.true_and, Bool.and_false, Bool.false_and, cond_true, cond_false, List.length_nil, List.length_cons, Nat.zero_add, Nat.reduceAdd, ble_zero, bg1, bg2, bg3, bg4, bg5, bg6, bg7, bg8, bg9, bg10, bg11, bg12, bg13, bg14, bg15]
  obtain ⟨y8, y17, y18, h4⟩ := t4_ok b is g1 g2 h0 hh n w m bb x8 x9 x11 x12 x13 (some (.int (Int.ofNat h0))) x17 x18 (μ.set n bx2)
  have hlen : ∀ (is : List Nat) (s : Option Nat × List Int), (own t is s).2.length ≤ s.2.length + is.length := by
    intro is
    induction is with
    | nil => intro s; exact Nat.le_refl _
    | cons i is ih =>
      intro s
      have a1 := ih (stepO t s i)
      have a2 := stepO_len t s i
      show (own t is (stepO t s i)).2.length ≤ _
      simp only [List.length_cons]
      omega
  have h5 := t5_ok b is g1 g2 h0 hh _ rfl (by have := hlen is (some h0, []); simp only [List.length_nil] at this; omega) n w m bb y8 x9 x11 x12 x13 y17 y18 (μ.set n bx2)
  refine ⟨bx2, e2, y8, some (.tup ((own t is (some h0, [])).2.map PV.int)), some (.lst (is.map (deedP t))), some (hereP (own t is (some h0, [])).1), some (.int (Int.ofNat h0)), y17, y18, q4, q2, by omega, ?_⟩
  rw [tbody, r_sl, h1, o_Seq, r_sl, h2, o_Seq, r_sl, h3, o_Seq, r_sl, h4, o_Seq, r_sl, h5, o_Seq, r_sl0]
/-- a part of one of the tables: what the first part leaves -/
theorem p1_all (t : TB) (ht : t ∈ tabs) (b : Bool) (n : Nat) (μ : Mem) : ∃ x8 x9 x10 x11 x12, evSL prog.G prog.isSub prog.att (run prog 28) part1 [some (.ref n), some (.int (Int.ofNat t.w)), some (.int (Int.ofNat t.m)), some (.bl b), none, none, none, none, none, none, none, none, none, none, none, none, none, none, none, none] μ =
    .nx (trS n t (some (.int (Int.ofNat t.w))) (some (.int (Int.ofNat t.m))) (some (.bl b)) x8 x9 x10 x11 x12 none none none none none none) μ := by
  simp only [tabs, List.mem_cons, List.mem_nil_iff, or_false] at ht
  rcases ht with rfl | rfl | rfl | rfl | rfl | rfl | rfl | rfl | rfl | rfl <;> cases b
  · exact ⟨_, _, _, _, _, p1_0_false n μ⟩
  · exact ⟨_, _, _, _, _, p1_0_true n μ⟩
  · exact ⟨_, _, _, _, _, p1_1_false n μ⟩
  · exact ⟨_, _, _, _, _, p1_1_true n μ⟩
  · exact ⟨_, _, _, _, _, p1_2_false n μ⟩
  · exact ⟨_, _, _, _, _, p1_2_true n μ⟩
  · exact ⟨_, _, _, _, _, p1_3_false n μ⟩
  · exact ⟨_, _, _, _, _, p1_3_true n μ⟩
  · exact ⟨_, _, _, _, _, p1_4_false n μ⟩
  · exact ⟨_, _, _, _, _, p1_4_true n μ⟩
  · exact ⟨_, _, _, _, _, p1_5_false n μ⟩
  · exact ⟨_, _, _, _, _, p1_5_true n μ⟩
  · exact ⟨_, _, _, _, _, p1_6_false n μ⟩
  · exact ⟨_, _, _, _, _, p1_6_true n μ⟩
  · exact ⟨_, _, _, _, _, p1_7_false n μ⟩
  · exact ⟨_, _, _, _, _, p1_7_true n μ⟩
  · exact ⟨_, _, _, _, _, p1_8_false n μ⟩
  · exact ⟨_, _, _, _, _, p1_8_true n μ⟩
  · exact ⟨_, _, _, _, _, p1_9_false n μ⟩
  · exact ⟨_, _, _, _, _, p1_9_true n μ⟩
theorem tr_ok (t : TB) (ht : t ∈ tabs) (b : Bool) (n : Nat) (μ : Mem) (e : Int) (hn : n < μ.length) (h : boxOk μ[n]? e) (he : 0 ≤ e ∧ e < 700) :
    ∃ (bx : MO) (e' : Int), boxOk (some bx) e' ∧ 0 ≤ e' ∧ e' ≤ e + 44 ∧ run prog 29 43 [.ref n, .int (Int.ofNat t.w), .int (Int.ofNat t.m), .bl b] μ = .ok (.bl true) (μ.set n bx) := by
  obtain ⟨x8, x9, x10, x11, x12, hp⟩ := p1_all t ht b n μ
  obtain ⟨σ', μ', ⟨bx, e', y8, y10, y13, y14, y15, y16, y17, y18, g1, g2, g3, g4, g5⟩, hf⟩ := for_range (tg := .nm 13) (body := evSL prog.G prog.isSub prog.att (run prog 28) tbody)
    (fun k σ μ1 => ∃ (bx : MO) (e' : Int) (y8 y10 y13 y14 y15 y16 y17 y18 : Option PV), boxOk (some bx) e' ∧ 0 ≤ e' ∧ e' ≤ e + 11 * k ∧ μ1 = μ.set n bx ∧ σ = trS n t (some (.int (Int.ofNat t.w))) (some (.int (Int.ofNat t.m))) (some (.bl b)) y8 x9 y10 x11 x12 y13 y14 y15 y16 y17 y18)
    0 4 (by decide) (fun k σ μ1 hk ⟨bx, e', y8, y10, y13, y14, y15, y16, y17, y18, g1, g2, g3, g4, g5⟩ => by
      have hb : boxOk μ1[n]? e' := by rw [g4, List.getElem?_set_self hn]; exact g1
      obtain ⟨bx2, e2, z8, z10, z14, z15, z16, z17, z18, q1, q2, q3, q4⟩ := turn_ok (tb_of ht) n (some (.int (Int.ofNat t.w))) (some (.int (Int.ofNat t.m))) (some (.bl b)) y8 x9 y10 x11 x12 (some (.int (0 + (k : Int)))) y14 y15 y16 y17 y18 μ1 e' (by rw [g4, List.length_set]; exact hn) hb (by omega)
      refine ⟨_, _, _, by rw [g5]; rfl, q4, bx2, e2, z8, z10, some (.int (0 + (k : Int))), z14, z15, z16, z17, z18, q1, q2, by omega, by rw [g4, List.set_set], rfl⟩)
    (σ := trS n t (some (.int (Int.ofNat t.w))) (some (.int (Int.ofNat t.m))) (some (.bl b)) x8 x9 x10 x11 x12 none none none none none none) (μ := μ)
    (by
      have ⟨h1, h2⟩ := List.getElem?_eq_some_iff.mp (show μ[n]? = some μ[n] from List.getElem?_eq_getElem hn)
      refine ⟨μ[n], e, _, _, _, _, _, _, _, _, by rw [List.getElem?_eq_getElem hn] at h; exact h, he.1, by omega, by rw [List.set_getElem_self], rfl⟩)
  refine ⟨bx, e', g1, g2, by omega, ?_⟩
  have hs : st0 f__law_table_right.nn [.ref n, .int (Int.ofNat t.w), .int (Int.ofNat t.m), .bl b] = [some (.ref n), some (.int (Int.ofNat t.w)), some (.int (Int.ofNat t.m)), some (.bl b), none, none, none, none, none, none, none, none, none, none, none, none, none, none, none, none] := rfl
  rw [run_cut fn__law_table_right rfl rfl rfl hs]
  have e0 : f__law_table_right.body = slApp part1 (.cons turns (.cons (.ret (.bl true)) .nil)) := rfl
  have e1 : rngOk 4 = true := rfl
  have e2 : (4 : Int).toNat = 4 := rfl
  rw [g4, g5] at hf
  rw [e0, app_nx hp, r_sl, turns_eq, r_for, r_rng1, r_int, o_Rng1, e1, cond_true, o_For, e2, hf, o_Seq, r_sl, r_ret, r_bl, o_Ret, o_SeqR]
  simp only [Fl.fin]
  exact cutS _ _ _ List.length_set
end K77
end HP
set_option Elab.async false
set_option linter.all false
set_option maxRecDepth 100000
set_option maxHeartbeats 2000000
namespace HP
namespace K77
open PySem PySem.Spec PyProof.Rows L2
def vbody : SL := (.cons (.asg 7 (.call 39 (.cons (.var 7) .nil))) (.cons (.asg 8 (.call 42 (.cons (.var 4) (.cons (.var 7) (.cons (.var 3) .nil))))) (.cons (.ife (.disj (.cons (.cmp .NotEq (.idx (.var 8) (.int 0)) (.str [110, 117, 109, 98, 101, 114])) (.cons (.cmp .IsNot (.idx (.var 8) (.int 2)) (.bl true)) (.cons (.not (.call 40 (.cons (.idx (.var 8) (.int 1)) (.cons (.var 7) .nil)))) .nil)))) (.cons (.ret (.bl false)) .nil) .nil) (.cons (.asg 3 (.not (.var 3))) .nil))))
abbrev evv (d : Nat) (l : SL) (σ : PSt) (μ : Mem) : Fl := evSL prog.G prog.isSub prog.att (run prog d) l σ μ
def toldV (x : PV) : PV := .lst [.str [110, 117, 109, 98, 101, 114], x, .bl true]
/-- an item that is no list, no dict -/
def VOk (w : Int) (b : Bool) (x : PV) : Prop := ∀ (s0 s1 s2 s5 s6 s8 : Option PV) (μ : Mem), evv 29 vbody [s0, s1, s2, some (.bl b), some (.int w), s5, s6, some x, s8] μ = .nx [s0, s1, s2, some (.bl !b), some (.int w), s5, s6, some x, some (toldV x)] μ
/-- a list, a dict: a store of that length -/
def VRef (w : Int) (L : Nat) (b : Bool) (x : PV) (m : MO) : Prop := ∀ (s0 s1 s2 s5 s6 s8 : Option PV) (μ : Mem), μ.length = L → evv 29 vbody [s0, s1, s2, some (.bl b), some (.int w), s5, s6, some x, s8] μ = .nx [s0, s1, s2, some (.bl !b), some (.int w), s5, s6, some (.ref L), some (toldV (.ref L))] (μ ++ [m])
def its1 (w : Int) : List PV := [.int 0, .int (5 + w), .int (-1), .int (10 ^ (19 : Int).toNat), .bl true, .bl false, .non, .str [50]]
def moL : MO := .lst [.int 2, .str [109, 111, 114, 101]]
def moD : MO := .dct [(.str [109, 111, 114, 101], .int 1)]
theorem va_0_true : AllP (VOk 0 true) (its1 0) := ⟨fun _ _ _ _ _ _ _ => by kernel_rfl, fun _ _ _ _ _ _ _ => by kernel_rfl, fun _ _ _ _ _ _ _ => by kernel_rfl, fun _ _ _ _ _ _ _ => by kernel_rfl, fun _ _ _ _ _ _ _ => by kernel_rfl, fun _ _ _ _ _ _ _ => by kernel_rfl, fun _ _ _ _ _ _ _ => by kernel_rfl, fun _ _ _ _ _ _ _ => by kernel_rfl, trivial⟩
theorem vt_0_true : VOk 0 true (.tup [.int 2]) := fun _ _ _ _ _ _ _ => by kernel_rfl
theorem va_0_false : AllP (VOk 0 false) (its1 0) := ⟨fun _ _ _ _ _ _ _ => by kernel_rfl, fun _ _ _ _ _ _ _ => by kernel_rfl, fun _ _ _ _ _ _ _ => by kernel_rfl, fun _ _ _ _ _ _ _ => by kernel_rfl, fun _ _ _ _ _ _ _ => by kernel_rfl, fun _ _ _ _ _ _ _ => by kernel_rfl, fun _ _ _ _ _ _ _ => by kernel_rfl, fun _ _ _ _ _ _ _ => by kernel_rfl, trivial⟩
theorem vt_0_false : VOk 0 false (.tup [.int 2]) := fun _ _ _ _ _ _ _ => by kernel_rfl
theorem va_1_true : AllP (VOk 1 true) (its1 1) := ⟨fun _ _ _ _ _ _ _ => by kernel_rfl, fun _ _ _ _ _ _ _ => by kernel_rfl, fun _ _ _ _ _ _ _ => by kernel_rfl, fun _ _ _ _ _ _ _ => by kernel_rfl, fun _ _ _ _ _ _ _ => by kernel_rfl, fun _ _ _ _ _ _ _ => by kernel_rfl, fun _ _ _ _ _ _ _ => by kernel_rfl, fun _ _ _ _ _ _ _ => by kernel_rfl, trivial⟩
theorem vt_1_true : VOk 1 true (.tup [.int 2]) := fun _ _ _ _ _ _ _ => by kernel_rfl
theorem va_1_false : AllP (VOk 1 false) (its1 1) := ⟨fun _ _ _ _ _ _ _ => by kernel_rfl, fun _ _ _ _ _ _ _ => by kernel_rfl, fun _ _ _ _ _ _ _ => by kernel_rfl, fun _ _ _ _ _ _ _ => by kernel_rfl, fun _ _ _ _ _ _ _ => by kernel_rfl, fun _ _ _ _ _ _ _ => by kernel_rfl, fun _ _ _ _ _ _ _ => by kernel_rfl, fun _ _ _ _ _ _ _ => by kernel_rfl, trivial⟩
theorem vt_1_false : VOk 1 false (.tup [.int 2]) := fun _ _ _ _ _ _ _ => by kernel_rfl
theorem vl_0_0_true : VRef 0 1 true (.lst [.int 2]) moL := fun _ _ _ _ _ _ μ h => match μ, h with | [_], _ => by kernel_rfl
theorem vd_0_0_true : VRef 0 2 true (.dct []) moD := fun _ _ _ _ _ _ μ h => match μ, h with | [_, _], _ => by kernel_rfl
theorem vl_0_0_false : VRef 0 1 false (.lst [.int 2]) moL := fun _ _ _ _ _ _ μ h => match μ, h with | [_], _ => by kernel_rfl
theorem vd_0_0_false : VRef 0 2 false (.dct []) moD := fun _ _ _ _ _ _ μ h => match μ, h with | [_, _], _ => by kernel_rfl
theorem vl_0_1_true : VRef 1 3 true (.lst [.int 2]) moL := fun _ _ _ _ _ _ μ h => match μ, h with | [_, _, _], _ => by kernel_rfl
theorem vd_0_1_true : VRef 1 4 true (.dct []) moD := fun _ _ _ _ _ _ μ h => match μ, h with | [_, _, _, _], _ => by kernel_rfl
theorem vl_0_1_false : VRef 1 3 false (.lst [.int 2]) moL := fun _ _ _ _ _ _ μ h => match μ, h with | [_, _, _], _ => by kernel_rfl
theorem vd_0_1_false : VRef 1 4 false (.dct []) moD := fun _ _ _ _ _ _ μ h => match μ, h with | [_, _, _, _], _ => by kernel_rfl
theorem vl_1_0_true : VRef 0 6 true (.lst [.int 2]) moL := fun _ _ _ _ _ _ μ h => match μ, h with | [_, _, _, _, _, _], _ => by kernel_rfl
theorem vd_1_0_true : VRef 0 7 true (.dct []) moD := fun _ _ _ _ _ _ μ h => match μ, h with | [_, _, _, _, _, _, _], _ => by kernel_rfl
theorem vl_1_0_false : VRef 0 6 false (.lst [.int 2]) moL := fun _ _ _ _ _ _ μ h => match μ, h with | [_, _, _, _, _, _], _ => by kernel_rfl
theorem vd_1_0_false : VRef 0 7 false (.dct []) moD := fun _ _ _ _ _ _ μ h => match μ, h with | [_, _, _, _, _, _, _], _ => by kernel_rfl
theorem vl_1_1_true : VRef 1 8 true (.lst [.int 2]) moL := fun _ _ _ _ _ _ μ h => match μ, h with | [_, _, _, _, _, _, _, _], _ => by kernel_rfl
theorem vd_1_1_true : VRef 1 9 true (.dct []) moD := fun _ _ _ _ _ _ μ h => match μ, h with | [_, _, _, _, _, _, _, _, _], _ => by kernel_rfl
theorem vl_1_1_false : VRef 1 8 false (.lst [.int 2]) moL := fun _ _ _ _ _ _ μ h => match μ, h with | [_, _, _, _, _, _, _, _], _ => by kernel_rfl
theorem vd_1_1_false : VRef 1 9 false (.dct []) moD := fun _ _ _ _ _ _ μ h => match μ, h with | [_, _, _, _, _, _, _, _, _], _ => by kernel_rfl
theorem vl_2_0_true : VRef 0 11 true (.lst [.int 2]) moL := fun _ _ _ _ _ _ μ h => match μ, h with | [_, _, _, _, _, _, _, _, _, _, _], _ => by kernel_rfl
theorem vd_2_0_true : VRef 0 12 true (.dct []) moD := fun _ _ _ _ _ _ μ h => match μ, h with | [_, _, _, _, _, _, _, _, _, _, _, _], _ => by kernel_rfl
theorem vl_2_0_false : VRef 0 11 false (.lst [.int 2]) moL := fun _ _ _ _ _ _ μ h => match μ, h with | [_, _, _, _, _, _, _, _, _, _, _], _ => by kernel_rfl
theorem vd_2_0_false : VRef 0 12 false (.dct []) moD := fun _ _ _ _ _ _ μ h => match μ, h with | [_, _, _, _, _, _, _, _, _, _, _, _], _ => by kernel_rfl
theorem vl_2_1_true : VRef 1 13 true (.lst [.int 2]) moL := fun _ _ _ _ _ _ μ h => match μ, h with | [_, _, _, _, _, _, _, _, _, _, _, _, _], _ => by kernel_rfl
theorem vd_2_1_true : VRef 1 14 true (.dct []) moD := fun _ _ _ _ _ _ μ h => match μ, h with | [_, _, _, _, _, _, _, _, _, _, _, _, _, _], _ => by kernel_rfl
theorem vl_2_1_false : VRef 1 13 false (.lst [.int 2]) moL := fun _ _ _ _ _ _ μ h => match μ, h with | [_, _, _, _, _, _, _, _, _, _, _, _, _], _ => by kernel_rfl
theorem vd_2_1_false : VRef 1 14 false (.dct []) moD := fun _ _ _ _ _ _ μ h => match μ, h with | [_, _, _, _, _, _, _, _, _, _, _, _, _, _], _ => by kernel_rfl
theorem vl_3_0_true : VRef 0 16 true (.lst [.int 2]) moL := fun _ _ _ _ _ _ μ h => match μ, h with | [_, _, _, _, _, _, _, _, _, _, _, _, _, _, _, _], _ => by kernel_rfl
theorem vd_3_0_true : VRef 0 17 true (.dct []) moD := fun _ _ _ _ _ _ μ h => match μ, h with | [_, _, _, _, _, _, _, _, _, _, _, _, _, _, _, _, _], _ => by kernel_rfl
theorem vl_3_0_false : VRef 0 16 false (.lst [.int 2]) moL := fun _ _ _ _ _ _ μ h => match μ, h with | [_, _, _, _, _, _, _, _, _, _, _, _, _, _, _, _], _ => by kernel_rfl
theorem vd_3_0_false : VRef 0 17 false (.dct []) moD := fun _ _ _ _ _ _ μ h => match μ, h with | [_, _, _, _, _, _, _, _, _, _, _, _, _, _, _, _, _], _ => by kernel_rfl
theorem vl_3_1_true : VRef 1 18 true (.lst [.int 2]) moL := fun _ _ _ _ _ _ μ h => match μ, h with | [_, _, _, _, _, _, _, _, _, _, _, _, _, _, _, _, _, _], _ => by kernel_rfl
theorem vd_3_1_true : VRef 1 19 true (.dct []) moD := fun _ _ _ _ _ _ μ h => match μ, h with | [_, _, _, _, _, _, _, _, _, _, _, _, _, _, _, _, _, _, _], _ => by kernel_rfl
theorem vl_3_1_false : VRef 1 18 false (.lst [.int 2]) moL := fun _ _ _ _ _ _ μ h => match μ, h with | [_, _, _, _, _, _, _, _, _, _, _, _, _, _, _, _, _, _], _ => by kernel_rfl
theorem vd_3_1_false : VRef 1 19 false (.dct []) moD := fun _ _ _ _ _ _ μ h => match μ, h with | [_, _, _, _, _, _, _, _, _, _, _, _, _, _, _, _, _, _, _], _ => by kernel_rfl
theorem va_all (w : Nat) (hw : w < 2) (b : Bool) : AllP (VOk (Int.ofNat w) b) (its1 (Int.ofNat w)) := by
  match w, hw, b with
  | 0, _, true => exact va_0_true
  | 0, _, false => exact va_0_false
  | 1, _, true => exact va_1_true
  | 1, _, false => exact va_1_false
theorem vt_all (w : Nat) (hw : w < 2) (b : Bool) : VOk (Int.ofNat w) b (.tup [.int 2]) := by
  match w, hw, b with
  | 0, _, true => exact vt_0_true
  | 0, _, false => exact vt_0_false
  | 1, _, true => exact vt_1_true
  | 1, _, false => exact vt_1_false
theorem vl_all (k w : Nat) (hk : k < 4) (hw : w < 2) (b : Bool) : VRef (Int.ofNat w) (5 * k + 1 + 2 * w) b (.lst [.int 2]) moL := by
  match k, hk, w, hw, b with
  | 0, _, 0, _, true => exact vl_0_0_true
  | 0, _, 0, _, false => exact vl_0_0_false
  | 0, _, 1, _, true => exact vl_0_1_true
  | 0, _, 1, _, false => exact vl_0_1_false
  | 1, _, 0, _, true => exact vl_1_0_true
  | 1, _, 0, _, false => exact vl_1_0_false
  | 1, _, 1, _, true => exact vl_1_1_true
  | 1, _, 1, _, false => exact vl_1_1_false
  | 2, _, 0, _, true => exact vl_2_0_true
  | 2, _, 0, _, false => exact vl_2_0_false
  | 2, _, 1, _, true => exact vl_2_1_true
  | 2, _, 1, _, false => exact vl_2_1_false
  | 3, _, 0, _, true => exact vl_3_0_true
  | 3, _, 0, _, false => exact vl_3_0_false
  | 3, _, 1, _, true => exact vl_3_1_true
  | 3, _, 1, _, false => exact vl_3_1_false
theorem vd_all (k w : Nat) (hk : k < 4) (hw : w < 2) (b : Bool) : VRef (Int.ofNat w) (5 * k + 1 + 2 * w + 1) b (.dct []) moD := by
  match k, hk, w, hw, b with
  | 0, _, 0, _, true => exact vd_0_0_true
  | 0, _, 0, _, false => exact vd_0_0_false
  | 0, _, 1, _, true => exact vd_0_1_true
  | 0, _, 1, _, false => exact vd_0_1_false
  | 1, _, 0, _, true => exact vd_1_0_true
  | 1, _, 0, _, false => exact vd_1_0_false
  | 1, _, 1, _, true => exact vd_1_1_true
  | 1, _, 1, _, false => exact vd_1_1_false
  | 2, _, 0, _, true => exact vd_2_0_true
  | 2, _, 0, _, false => exact vd_2_0_false
  | 2, _, 1, _, true => exact vd_2_1_true
  | 2, _, 1, _, false => exact vd_2_1_false
  | 3, _, 0, _, true => exact vd_3_0_true
  | 3, _, 0, _, false => exact vd_3_0_false
  | 3, _, 1, _, true => exact vd_3_1_true
  | 3, _, 1, _, false => exact vd_3_1_false
end K77
end HP
set_option Elab.async false
set_option linter.all false
set_option maxRecDepth 10000
set_option maxHeartbeats 1000000
namespace HP
namespace K77
open PySem PySem.Spec PyProof.Rows L2
def mbody : SL := (.cons (.ife (.not (.call 43 (.cons (.var 2) (.cons (.var 4) (.cons (.var 6) (.cons (.var 3) .nil)))))) (.cons (.ret (.bl false)) .nil) .nil) (.cons (.asg 3 (.not (.var 3))) .nil))
def itemsE : E := (.ife (.cmp .Lt (.var 4) (.int 2)) (.lst false (.cons (.int 0) (.cons (.bin false .Add (.var 5) (.int 1)) (.cons (.neg (.int 1)) (.cons (.bin false .Pow (.int 10) (.int 19)) (.cons (.bl true) (.cons (.bl false) (.cons .non (.cons (.str [50]) (.cons (.lst false (.cons (.int 2) .nil)) (.cons (.tup (.cons (.int 2) .nil)) (.cons (.dct false) .nil)))))))))))) (.lst false .nil))
def wbody : SL := (.cons (.for (.nm 6) (.rng2 (.int 1) (.bin false .Add (.var 5) (.int 1))) mbody) (.cons (.for (.nm 7) (.over itemsE) vbody) .nil))
def whichE : E := (.lst false (.cons (.tup (.cons (.int 0) (.cons (.int 4) .nil))) (.cons (.tup (.cons (.int 1) (.cons (.int 5) .nil))) (.cons (.tup (.cons (.int 2) (.cons (.int 1) .nil))) .nil))))
def kbody : SL := (.cons (.asg 2 (.call 35 (.cons (.call 34 (.cons (.var 0) (.cons (.var 1) .nil))) .nil))) (.cons (.asg 3 (.cmp .Eq (.call 36 (.cons (.var 2) (.cons (.int 2) .nil))) (.int 0))) (.cons (.for (.tup (.cons (.nm 4) (.cons (.nm 5) .nil))) (.over whichE) wbody) .nil)))
theorem law_eq : f_law.body = (.cons (.for (.nm 1) (.rng1 (.bf2 .max (.int 2) (.bf2 .min (.int 4) (.bf1 false .len (.var 0))))) kbody) (.cons (.ret (.bl true)) .nil)) := rfl
theorem tab_all : ([(0, 4), (1, 5), (2, 1)].all fun (q : Nat × Nat) => (List.range q.2).all fun i => tabs.any fun t => Nat.beq t.w q.1 && Nat.beq t.m (i + 1)) = true := by decide
theorem tab_of {w most i : Nat} (h : (w, most) ∈ [(0, 4), (1, 5), (2, 1)]) (hi : i < most) : ∃ t ∈ tabs, t.w = w ∧ t.m = i + 1 := by
  have z := List.all_eq_true.mp (List.all_eq_true.mp tab_all _ h) i (List.mem_range.mpr hi)
  obtain ⟨t, ht, e⟩ := List.any_eq_true.mp z
  rw [Bool.and_eq_true] at e
  exact ⟨t, ht, Nat.eq_of_beq_eq_true e.1, Nat.eq_of_beq_eq_true e.2⟩
/-- all tables of a kind -/
theorem mloop {w most : Nat} (hw : (w, most) ∈ [(0, 4), (1, 5), (2, 1)]) (n : Nat) (b : Bool) (s0 s1 s6 s7 s8 : Option PV) (μ : Mem) (e : Int) (hn : n < μ.length) (h : boxOk μ[n]? e) (he : 0 ≤ e ∧ e < 470) :
    ∃ (bx : MO) (e' : Int) (b' : Bool) (y6 : Option PV), boxOk (some bx) e' ∧ 0 ≤ e' ∧ e' ≤ e + 220 ∧
      evS prog.G prog.isSub prog.att (run prog 29) (.for (.nm 6) (.rng2 (.int 1) (.bin false .Add (.var 5) (.int 1))) mbody) [s0, s1, some (.ref n), some (.bl b), some (.int (Int.ofNat w)), some (.int (Int.ofNat most)), s6, s7, s8] μ =
        .nx [s0, s1, some (.ref n), some (.bl b'), some (.int (Int.ofNat w)), some (.int (Int.ofNat most)), y6, s7, s8] (μ.set n bx) := by
  have hm5 : most ≤ 5 := by
    simp only [List.mem_cons, Prod.mk.injEq, List.mem_nil_iff, or_false] at hw
    omega
  obtain ⟨σ', μ', ⟨bx, e', b', y6, g1, g2, g3, g4, g5⟩, hf⟩ := for_range (tg := .nm 6) (body := evSL prog.G prog.isSub prog.att (run prog 29) mbody)
    (fun k σ μ1 => ∃ (bx : MO) (e' : Int) (b' : Bool) (y6 : Option PV), boxOk (some bx) e' ∧ 0 ≤ e' ∧ e' ≤ e + 44 * k ∧ μ1 = μ.set n bx ∧ σ = [s0, s1, some (.ref n), some (.bl b'), some (.int (Int.ofNat w)), some (.int (Int.ofNat most)), y6, s7, s8])
    1 most (by omega) (fun k σ μ1 hk ⟨bx, e', b', y6, g1, g2, g3, g4, g5⟩ => by
      have hb : boxOk μ1[n]? e' := by rw [g4, List.getElem?_set_self hn]; exact g1
      obtain ⟨t, ht, rfl, htm⟩ := tab_of hw hk
      obtain ⟨bx2, e2, q1, q2, q3, q4⟩ := tr_ok t ht b' n μ1 e' (by rw [g4, List.length_set]; exact hn) hb (by omega)
      have e1 : (1 : Int) + (k : Int) = Int.ofNat t.m := by rw [htm]; simp only [Int.ofNat_eq_natCast]; omega
      refine ⟨_, [s0, s1, some (.ref n), some (.bl !b'), some (.int (Int.ofNat t.w)), some (.int (Int.ofNat most)), some (.int (Int.ofNat t.m)), s7, s8], μ1.set n bx2, by rw [g5]; rfl, ?_, bx2, e2, !b', some (.int (Int.ofNat t.m)), q1, q2, by omega, by rw [g4, List.set_set], rfl⟩
      rw [e1]
      simp only [mbody, r_var, k_var, r_gl, r_non, r_bl, r_int, r_str, o_Bin2, x_Bin2, o_Bin, x_Bin, r_bin, o_Cmp2, x_Cmp2, o_Cmp, x_Cmp, r_cmp, o_Chn4, x_Chn4, o_Chn3, o_Chn2, o_Chn, x_Chn, r_chn, r_conj, r_disj, o_And, o_Or, r_And1, r_And2, r_And3, r_Or1, r_Or2, r_Or3, o_Not, r_not, o_Neg, r_neg, o_Ife, r_ife, o_Idx2, x_Idx2, o_Idx, x_Idx, r_idx, o_Slc3, o_Slc2, o_Slc, r_slc, r_pt0, o_Pt, r_pt1, o_EL2, o_EL, x_EL, x_EL2, r_nil, r_cons, o_St2, o_St1, o_St, r_star, o_Tup, x_Tup, o_Lst, x_Lst, r_tup, r_lst, r_dct, o_Bf1, x_Bf1, r_bf1, o_Bf22, x_Bf22, o_Bf2, x_Bf2, r_bf2, o_IsT, x_IsT, r_isT, o_Call, x_Call, r_call, o_CK2, o_CK, r_callK, o_Mth2, o_Mth1, o_Mth, r_mth, o_Turn2, o_Turn, o_Lc3, o_Lc2, r_lc_rng1, r_lc_rng2, r_lc_enu, r_lc_zip, r_all0, o_All, r_all1, o_Over, r_over, o_Rng1, r_rng1, o_Rng22, o_Rng2, r_rng2, r_sl0, r_sl, o_Seq, o_SeqR, o_SeqX, o_SeqC, o_Asg, x_Asg, r_asg, o_AT2, o_AT, r_asgT, o_Ret, x_Ret, r_ret, o_Expr, x_Expr, r_expr, o_Raise, r_raise, o_If, x_If, r_if, o_For, r_for, o_Sx3, o_Sx2, o_Sx, r_setx, r_doc, m_and, m_or, opt_some, okB_some, okI_some, newL_f, ofNat_toNat, map_some, List.getElem?_cons_zero, List.getElem?_cons_succ, List.set, bf1, Nat.reduceBEq, Bool.or_false, Bool.false_or, Bool.or_true, Bool.true_or, Bool.not_true, Bool.not_false, Bool.and_true, Bool.true_and, Bool.and_false, Bool.false_and, cond_true, cond_false, List.length_nil, List.length_cons, Nat.zero_add, Nat.reduceAdd, ble_zero, bg1, bg2, bg3, bg4, bg5, bg6, bg7, bg8, bg9, bg10, bg11, bg12, bg13, bg14, bg15, q4])
    (σ := [s0, s1, some (.ref n), some (.bl b), some (.int (Int.ofNat w)), some (.int (Int.ofNat most)), s6, s7, s8]) (μ := μ)
    (by
      refine ⟨μ[n], e, _, _, by rw [List.getElem?_eq_getElem hn] at h; exact h, he.1, by omega, by rw [List.set_getElem_self], rfl⟩)
  refine ⟨bx, e', b', y6, g1, g2, by omega, ?_⟩
  have e1 : Int.ofNat most + 1 = Int.ofNat (most + 1) := by simp only [Int.ofNat_eq_natCast]; omega
  have e2 : rngOk 1 = true := rfl
  have e3 : (Int.ofNat (most + 1) - 1).toNat = most := by simp only [Int.ofNat_eq_natCast]; omega
  rw [r_for, r_rng2, r_int, o_Rng2, r_bin, r_var]
  simp only [List.getElem?_cons_zero, List.getElem?_cons_succ, k_var, o_Bin, r_int, o_Bin2, add_ii, e1, o_Rng22, e2, rng_ok (show most + 1 < 1000000 by omega), Bool.and_self, cond_true, o_For, e3, hf, g4, g5]
/-- the items of a kind -/
theorem vloop {w k : Nat} (hk : k < 4) (hw : w < 2) (b : Bool) (n : Nat) (s0 s1 s6 s7 s8 : Option PV) (μ : Mem) (h : μ.length = 5 * k + 1 + 2 * w) :
    ∃ s7' s8' b', evS prog.G prog.isSub prog.att (run prog 29) (.for (.nm 7) (.over itemsE) vbody) [s0, s1, some (.ref n), some (.bl b), some (.int (Int.ofNat w)), some (.int (Int.ofNat (4 + w))), s6, s7, s8] μ =
      .nx [s0, s1, some (.ref n), some (.bl b'), some (.int (Int.ofNat w)), some (.int (Int.ofNat (4 + w))), s6, s7', s8'] (μ ++ [moL] ++ [moD]) := by
  have hlt : decide (Int.ofNat w < 2) = true := decide_eq_true (by simp only [Int.ofNat_eq_natCast]; omega)
  have hp : ∀ μ, bin false .Pow (.int 10) (.int 19) μ = .ok (.int (10 ^ (19 : Int).toNat)) μ := fun μ => rfl
  have ha : Int.ofNat (4 + w) + 1 = 5 + Int.ofNat w := by simp only [Int.ofNat_eq_natCast]; omega
  have hI : evI prog.G (run prog 29) (.over itemsE) [s0, s1, some (.ref n), some (.bl b), some (.int (Int.ofNat w)), some (.int (Int.ofNat (4 + w))), s6, s7, s8] μ = .ok (.its (its1 (Int.ofNat w) ++ [.lst [.int 2], .tup [.int 2], .dct []])) μ := by
    simp only [itemsE, r_var, k_var, r_gl, r_non, r_bl, r_int, r_str, o_Bin2, x_Bin2, o_Bin, x_Bin, r_bin, o_Cmp2, x_Cmp2, o_Cmp, x_Cmp, r_cmp, o_Chn4, x_Chn4, o_Chn3, o_Chn2, o_Chn, x_Chn, r_chn, r_conj, r_disj, o_And, o_Or, r_And1, r_And2, r_And3, r_Or1, r_Or2, r_Or3, o_Not, r_not, o_Neg, r_neg, o_Ife, r_ife, o_Idx2, x_Idx2, o_Idx, x_Idx, r_idx, o_Slc3, o_Slc2, o_Slc, r_slc, r_pt0, o_Pt, r_pt1, o_EL2, o_EL, x_EL, x_EL2, r_nil, r_cons, o_St2, o_St1, o_St, r_star, o_Tup, x_Tup, o_Lst, x_Lst, r_tup, r_lst, r_dct, o_Bf1, x_Bf1, r_bf1, o_Bf22, x_Bf22, o_Bf2, x_Bf2, r_bf2, o_IsT, x_IsT, r_isT, o_Call, x_Call, r_call, o_CK2, o_CK, r_callK, o_Mth2, o_Mth1, o_Mth, r_mth, o_Turn2, o_Turn, o_Lc3, o_Lc2, r_lc_rng1, r_lc_rng2, r_lc_enu, r_lc_zip, r_all0, o_All, r_all1, o_Over, r_over, o_Rng1, r_rng1, o_Rng22, o_Rng2, r_rng2, r_sl0, r_sl, o_Seq, o_SeqR, o_SeqX, o_SeqC, o_Asg, x_Asg, r_asg, o_AT2, o_AT, r_asgT, o_Ret, x_Ret, r_ret, o_Expr, x_Expr, r_expr, o_Raise, r_raise, o_If, x_If, r_if, o_For, r_for, o_Sx3, o_Sx2, o_Sx, r_setx, r_doc, m_and, m_or, opt_some, okB_some, okI_some, newL_f, ofNat_toNat, map_some, List.getElem?_cons_zero, List.getElem?_cons_succ, List.set, bf1, Nat.reduceBEq, Bool.or_false, Bool.false_or, Bool.or_true, Bool.true_or, Bool.not_true, Bool.not_false, Bool.and_true, Bool.true_and, Bool.and_false, Bool.false_and, cond_true, cond_false, List.length_nil, List.length_cons, Nat.zero_add, Nat.reduceAdd, ble_zero, bg1, bg2, bg3, bg4, bg5, bg6, bg7, bg8, bg9, bg10, bg11, bg12, bg13, bg14, bg15, cmpq, ltq, hlt, add_ii, ha, hp, newD, Bool.false_eq_true, if_false, itOver]
    rfl
  obtain ⟨a1, a2, a3, a4, a5, a6, a7, a8, _⟩ := va_all w hw b
  obtain ⟨c1, c2, c3, c4, c5, c6, c7, c8, _⟩ := va_all w hw (!b)
  have hl := vl_all k w hk hw b
  have ht := vt_all w hw (!b)
  have hd := vd_all k w hk hw b
  unfold VOk at a1 c2 a3 c4 a5 c6 a7 c8 ht
  rw [Bool.not_not] at c2 c4 c6 c8 ht
  refine ⟨some (.ref (5 * k + 1 + 2 * w + 1)), some (toldV (.ref (5 * k + 1 + 2 * w + 1))), !b, ?_⟩
  rw [r_for, hI, o_For, show big = (big - 12) + 12 from by decide]
  refine (forGo_cons rfl rfl (a1 _ _ _ _ _ _ _)).trans ?_
  refine (forGo_cons rfl rfl (c2 _ _ _ _ _ _ _)).trans ?_
  refine (forGo_cons rfl rfl (a3 _ _ _ _ _ _ _)).trans ?_
  refine (forGo_cons rfl rfl (c4 _ _ _ _ _ _ _)).trans ?_
  refine (forGo_cons rfl rfl (a5 _ _ _ _ _ _ _)).trans ?_
  refine (forGo_cons rfl rfl (c6 _ _ _ _ _ _ _)).trans ?_
  refine (forGo_cons rfl rfl (a7 _ _ _ _ _ _ _)).trans ?_
  refine (forGo_cons rfl rfl (c8 _ _ _ _ _ _ _)).trans ?_
  refine (forGo_cons rfl rfl (hl _ _ _ _ _ _ _ h)).trans ?_
  refine (forGo_cons rfl rfl (ht _ _ _ _ _ _ _)).trans ?_
  refine (forGo_cons rfl rfl (hd _ _ _ _ _ _ _ (by rw [List.length_append, h]; rfl))).trans ?_
  exact forGo_nil rfl
end K77
end HP
set_option Elab.async false
set_option linter.all false
set_option maxRecDepth 10000
set_option maxHeartbeats 1000000
namespace HP
namespace K77
open PySem PySem.Spec PyProof.Rows L2
theorem wstep {k w : Nat} (hk : k < 4) (hw : w < 2) (hm : (w, 4 + w) ∈ [(0, 4), (1, 5), (2, 1)]) (b : Bool) (s0 s1 s6 s7 s8 : Option PV) (μ : Mem) (e : Int) (hl : μ.length = 5 * k + 1 + 2 * w) (h : boxOk μ[5 * k]? e) (he : 0 ≤ e ∧ e < 470) :
    ∃ (μ' : Mem) (e' : Int) (b' : Bool) (y6 y7 y8 : Option PV), μ'.length = 5 * k + 1 + 2 * (w + 1) ∧ boxOk μ'[5 * k]? e' ∧ 0 ≤ e' ∧ e' ≤ e + 220 ∧
      evSL prog.G prog.isSub prog.att (run prog 29) wbody [s0, s1, some (.ref (5 * k)), some (.bl b), some (.int (Int.ofNat w)), some (.int (Int.ofNat (4 + w))), s6, s7, s8] μ = .nx [s0, s1, some (.ref (5 * k)), some (.bl b'), some (.int (Int.ofNat w)), some (.int (Int.ofNat (4 + w))), y6, y7, y8] μ' := by
  obtain ⟨bx, e', b', y6, g1, g2, g3, h1⟩ := mloop hm (5 * k) b s0 s1 s6 s7 s8 μ e (by omega) h he
  obtain ⟨y7, y8, b2, h2⟩ := vloop hk hw b' (5 * k) s0 s1 y6 s7 s8 (μ.set (5 * k) bx) (by rw [List.length_set]; exact hl)
  have hlt : 5 * k < μ.length := by omega
  refine ⟨μ.set (5 * k) bx ++ [moL] ++ [moD], e', b2, y6, y7, y8, ?_, ?_, g2, g3, ?_⟩
  · simp only [List.length_append, List.length_set, hl, List.length]; omega
  · rw [List.append_assoc, List.getElem?_append_left (by rw [List.length_set]; exact hlt), List.getElem?_set_self hlt]; exact g1
  · rw [wbody, r_sl, h1, o_Seq, r_sl, h2, o_Seq, r_sl0]
theorem wstep2 {k : Nat} (b : Bool) (s0 s1 s6 s7 s8 : Option PV) (μ : Mem) (e : Int) (hl : μ.length = 5 * k + 5) (h : boxOk μ[5 * k]? e) (he : 0 ≤ e ∧ e < 470) :
    ∃ (μ' : Mem) (b' : Bool) (y6 y7 y8 : Option PV), μ'.length = 5 * k + 5 ∧
      evSL prog.G prog.isSub prog.att (run prog 29) wbody [s0, s1, some (.ref (5 * k)), some (.bl b), some (.int (Int.ofNat 2)), some (.int (Int.ofNat 1)), s6, s7, s8] μ = .nx [s0, s1, some (.ref (5 * k)), some (.bl b'), some (.int (Int.ofNat 2)), some (.int (Int.ofNat 1)), y6, y7, y8] μ' := by
  obtain ⟨bx, e', b', y6, g1, g2, g3, h1⟩ := mloop (w := 2) (most := 1) (by simp) (5 * k) b s0 s1 s6 s7 s8 μ e (by omega) h he
  refine ⟨μ.set (5 * k) bx, b', y6, s7, s8, by rw [List.length_set]; exact hl, ?_⟩
  have hI : evI prog.G (run prog 29) (.over itemsE) [s0, s1, some (.ref (5 * k)), some (.bl b'), some (.int (Int.ofNat 2)), some (.int (Int.ofNat 1)), y6, s7, s8] (μ.set (5 * k) bx) = .ok (.its []) (μ.set (5 * k) bx) := by
    have hlt : decide (Int.ofNat 2 < 2) = false := rfl
    simp only [itemsE, r_var, k_var, r_gl, r_non, r_bl, r_int, r_str, o_Bin2, x_Bin2, o_Bin, x_Bin, r_bin, o_Cmp2, x_Cmp2, o_Cmp, x_Cmp, r_cmp, o_Chn4, x_Chn4, o_Chn3, o_Chn2, o_Chn, x_Chn, r_chn, r_conj, r_disj, o_And, o_Or, r_And1, r_And2, r_And3, r_Or1, r_Or2, r_Or3, o_Not, r_not, o_Neg, r_neg, o_Ife, r_ife, o_Idx2, x_Idx2, o_Idx, x_Idx, r_idx, o_Slc3, o_Slc2, o_Slc, r_slc, r_pt0, o_Pt, r_pt1, o_EL2, o_EL, x_EL, x_EL2, r_nil, r_cons, o_St2, o_St1, o_St, r_star, o_Tup, x_Tup, o_Lst, x_Lst, r_tup, r_lst, r_dct, o_Bf1, x_Bf1, r_bf1, o_Bf22, x_Bf22, o_Bf2, x_Bf2, r_bf2, o_IsT, x_IsT, r_isT, o_Call, x_Call, r_call, o_CK2, o_CK, r_callK, o_Mth2, o_Mth1, o_Mth, r_mth, o_Turn2, o_Turn, o_Lc3, o_Lc2, r_lc_rng1, r_lc_rng2, r_lc_enu, r_lc_zip, r_all0, o_All, r_all1, o_Over, r_over, o_Rng1, r_rng1, o_Rng22, o_Rng2, r_rng2, r_sl0, r_sl, o_Seq, o_SeqR, o_SeqX, o_SeqC, o_Asg, x_Asg, r_asg, o_AT2, o_AT, r_asgT, o_Ret, x_Ret, r_ret, o_Expr, x_Expr, r_expr, o_Raise, r_raise, o_If, x_If, r_if, o_For, r_for, o_Sx3, o_Sx2, o_Sx, r_setx, r_doc, m_and, m_or, opt_some, okB_some, okI_some, newL_f, ofNat_toNat, map_some, List.getElem?_cons_zero, List.getElem?_cons_succ, List.set, bf1, Nat.reduceBEq, Bool.or_false, Bool.false_or, Bool.or_true, Bool.true_or, Bool.not_true, Bool.not_false, Bool.and_true, Bool.true_and, Bool.and_false, Bool.false_and, cond_true, cond_false, List.length_nil, List.length_cons, Nat.zero_add, Nat.reduceAdd, ble_zero, bg1, bg2, bg3, bg4, bg5, bg6, bg7, bg8, bg9, bg10, bg11, bg12, bg13, bg14, bg15, cmpq, ltq, hlt, itOver]
  have h2 : evS prog.G prog.isSub prog.att (run prog 29) (.for (.nm 7) (.over itemsE) vbody) [s0, s1, some (.ref (5 * k)), some (.bl b'), some (.int (Int.ofNat 2)), some (.int (Int.ofNat 1)), y6, s7, s8] (μ.set (5 * k) bx) = .nx [s0, s1, some (.ref (5 * k)), some (.bl b'), some (.int (Int.ofNat 2)), some (.int (Int.ofNat 1)), y6, s7, s8] (μ.set (5 * k) bx) := by
    rw [r_for, hI, o_For, show big = (big - 1) + 1 from by decide]
    exact forGo_nil rfl
  rw [wbody, r_sl, h1, o_Seq, r_sl, h2, o_Seq, r_sl0]
theorem wloop {k : Nat} (hk : k < 4) (b : Bool) (s0 s1 s4 s5 s6 s7 s8 : Option PV) (μ : Mem) (e : Int) (hl : μ.length = 5 * k + 1) (h : boxOk μ[5 * k]? e) (he : 0 ≤ e ∧ e < 10) :
    ∃ (μ' : Mem) (y3 y4 y5 y6 y7 y8 : Option PV), μ'.length = 5 * (k + 1) ∧
      evS prog.G prog.isSub prog.att (run prog 29) (.for (.tup (.cons (.nm 4) (.cons (.nm 5) .nil))) (.over whichE) wbody) [s0, s1, some (.ref (5 * k)), some (.bl b), s4, s5, s6, s7, s8] μ = .nx [s0, s1, some (.ref (5 * k)), y3, y4, y5, y6, y7, y8] μ' := by
  obtain ⟨μ1, e1, b1, a6, a7, a8, l1, g1, g2, g3, h1⟩ := wstep (k := k) (w := 0) hk (by decide) (by simp) b s0 s1 s6 s7 s8 μ e (by omega) h (by omega)
  obtain ⟨μ2, e2, b2, c6, c7, c8, l2, g4, g5, g6, h2⟩ := wstep (k := k) (w := 1) hk (by decide) (by simp) b1 s0 s1 a6 a7 a8 μ1 e1 (by omega) g1 (by omega)
  obtain ⟨μ3, b3, d6, d7, d8, l3, h3⟩ := wstep2 (k := k) b2 s0 s1 c6 c7 c8 μ2 e2 (by omega) g4 (by omega)
  refine ⟨μ3, some (.bl b3), some (.int (Int.ofNat 2)), some (.int (Int.ofNat 1)), d6, d7, d8, by omega, ?_⟩
  have hI : evI prog.G (run prog 29) (.over whichE) [s0, s1, some (.ref (5 * k)), some (.bl b), s4, s5, s6, s7, s8] μ = .ok (.its [.tup [.int 0, .int 4], .tup [.int 1, .int 5], .tup [.int 2, .int 1]]) μ := by
    simp only [whichE, r_var, k_var, r_gl, r_non, r_bl, r_int, r_str, o_Bin2, x_Bin2, o_Bin, x_Bin, r_bin, o_Cmp2, x_Cmp2, o_Cmp, x_Cmp, r_cmp, o_Chn4, x_Chn4, o_Chn3, o_Chn2, o_Chn, x_Chn, r_chn, r_conj, r_disj, o_And, o_Or, r_And1, r_And2, r_And3, r_Or1, r_Or2, r_Or3, o_Not, r_not, o_Neg, r_neg, o_Ife, r_ife, o_Idx2, x_Idx2, o_Idx, x_Idx, r_idx, o_Slc3, o_Slc2, o_Slc, r_slc, r_pt0, o_Pt, r_pt1, o_EL2, o_EL, x_EL, x_EL2, r_nil, r_cons, o_St2, o_St1, o_St, r_star, o_Tup, x_Tup, o_Lst, x_Lst, r_tup, r_lst, r_dct, o_Bf1, x_Bf1, r_bf1, o_Bf22, x_Bf22, o_Bf2, x_Bf2, r_bf2, o_IsT, x_IsT, r_isT, o_Call, x_Call, r_call, o_CK2, o_CK, r_callK, o_Mth2, o_Mth1, o_Mth, r_mth, o_Turn2, o_Turn, o_Lc3, o_Lc2, r_lc_rng1, r_lc_rng2, r_lc_enu, r_lc_zip, r_all0, o_All, r_all1, o_Over, r_over, o_Rng1, r_rng1, o_Rng22, o_Rng2, r_rng2, r_sl0, r_sl, o_Seq, o_SeqR, o_SeqX, o_SeqC, o_Asg, x_Asg, r_asg, o_AT2, o_AT, r_asgT, o_Ret, x_Ret, r_ret, o_Expr, x_Expr, r_expr, o_Raise, r_raise, o_If, x_If, r_if, o_For, r_for, o_Sx3, o_Sx2, o_Sx, r_setx, r_doc, m_and, m_or, opt_some, okB_some, okI_some, newL_f, ofNat_toNat, map_some, List.getElem?_cons_zero, List.getElem?_cons_succ, List.set, bf1, Nat.reduceBEq, Bool.or_false, Bool.false_or, Bool.or_true, Bool.true_or, Bool.not_true, Bool.not_false, Bool.and_true, Bool.true_and, Bool.and_false, Bool.false_and, cond_true, cond_false, List.length_nil, List.length_cons, Nat.zero_add, Nat.reduceAdd, ble_zero, bg1, bg2, bg3, bg4, bg5, bg6, bg7, bg8, bg9, bg10, bg11, bg12, bg13, bg14, bg15, itOver]
  rw [r_for, hI, o_For, show big = (big - 4) + 4 from by decide]
  refine (forGo_cons rfl rfl h1).trans ?_
  refine (forGo_cons rfl rfl h2).trans ?_
  refine (forGo_cons rfl rfl h3).trans ?_
  exact forGo_nil rfl
theorem kstep (k : Nat) (hk : k < 4) (ns : List Int) (s2 s3 s4 s5 s6 s7 s8 : Option PV) (μ : Mem) (hl : μ.length = 5 * k) :
    ∃ μ' s2' s3' s4' s5' s6' s7' s8', μ'.length = 5 * (k + 1) ∧ evSL prog.G prog.isSub prog.att (run prog 29) kbody [some (.scr ns), some (.int (Int.ofNat k)), s2, s3, s4, s5, s6, s7, s8] μ = .nx [some (.scr ns), some (.int (Int.ofNat k)), s2', s3', s4', s5', s6', s7', s8'] μ' := by
  obtain ⟨g, hg⟩ := cell_ok 28 k ns μ
  obtain ⟨bx, hbx, hb⟩ := box_ok 28 g μ
  rw [hl] at hb
  have hat : (μ ++ [bx])[5 * k]? = some bx := by rw [← hl]; exact List.getElem?_concat_length
  obtain ⟨x, e', bx', _, _, h0, h1, hbx', ht⟩ := take_ok 28 (5 * k) (μ ++ [bx]) 0 2 (by rw [hat]; exact hbx) (by decide) (by decide)
  have hL : ((μ ++ [bx]).set (5 * k) bx').length = 5 * k + 1 := by rw [List.length_set, List.length_append, hl]; rfl
  obtain ⟨μ', s3', s4', s5', s6', s7', s8', hl', hw⟩ := wloop hk (x == 0) (some (.scr ns)) (some (.int (Int.ofNat k))) s4 s5 s6 s7 s8 ((μ ++ [bx]).set (5 * k) bx') e' hL (by rw [List.getElem?_set_self (by rw [List.length_append, hl]; simp)]; exact hbx') (by omega)
  refine ⟨μ', some (.ref (5 * k)), s3', s4', s5', s6', s7', s8', by omega, ?_⟩
  simp only [kbody, r_var, k_var, r_gl, r_non, r_bl, r_int, r_str, o_Bin2, x_Bin2, o_Bin, x_Bin, r_bin, o_Cmp2, x_Cmp2, o_Cmp, x_Cmp, r_cmp, o_Chn4, x_Chn4, o_Chn3, o_Chn2, o_Chn, x_Chn, r_chn, r_conj, r_disj, o_And, o_Or, r_And1, r_And2, r_And3, r_Or1, r_Or2, r_Or3, o_Not, r_not, o_Neg, r_neg, o_Ife, r_ife, o_Idx2, x_Idx2, o_Idx, x_Idx, r_idx, o_Slc3, o_Slc2, o_Slc, r_slc, r_pt0, o_Pt, r_pt1, o_EL2, o_EL, x_EL, x_EL2, r_nil, r_cons, o_St2, o_St1, o_St, r_star, o_Tup, x_Tup, o_Lst, x_Lst, r_tup, r_lst, r_dct, o_Bf1, x_Bf1, r_bf1, o_Bf22, x_Bf22, o_Bf2, x_Bf2, r_bf2, o_IsT, x_IsT, r_isT, o_Call, x_Call, r_call, o_CK2, o_CK, r_callK, o_Mth2, o_Mth1, o_Mth, r_mth, o_Turn2, o_Turn, o_Lc3, o_Lc2, r_lc_rng1, r_lc_rng2, r_lc_enu, r_lc_zip, r_all0, o_All, r_all1, o_Over, r_over, o_Rng1, r_rng1, o_Rng22, o_Rng2, r_rng2, r_sl0, r_sl, o_Seq, o_SeqR, o_SeqX, o_SeqC, o_Asg, x_Asg, r_asg, o_AT2, o_AT, r_asgT, o_Ret, x_Ret, r_ret, o_Expr, x_Expr, r_expr, o_Raise, r_raise, o_If, x_If, r_if, o_For, r_for, o_Sx3, o_Sx2, o_Sx, r_setx, r_doc, m_and, m_or, opt_some, okB_some, okI_some, newL_f, ofNat_toNat, map_some, List.getElem?_cons_zero, List.getElem?_cons_succ, List.set, bf1, Nat.reduceBEq, Bool.or_false, Bool.false_or, Bool.or_true, Bool.true_or, Bool.not_true, Bool.not_false, Bool.and_true, Bool.true_and, Bool.and_false, Bool.false_and, cond_true, cond_false, List.length_nil, List.length_cons, Nat.zero_add, Nat.reduceAdd, ble_zero, bg1, bg2, bg3, bg4, bg5, bg6, bg7, bg8, bg9, bg10, bg11, bg12, bg13, bg14, bg15, hg, hb, ht, cmpq, eqq_int, hw]
theorem kloop (ns : List Int) {n : Nat} (hn : n ≤ 4) : ∃ σ' μ', forGo (.nm 1) (evSL prog.G prog.isSub prog.att (run prog 29) kbody) big (.rng 0 n) [some (.scr ns), none, none, none, none, none, none, none, none] [] = .nx σ' μ' := by
  obtain ⟨σ', μ', _, hf⟩ := for_range (tg := .nm 1) (body := evSL prog.G prog.isSub prog.att (run prog 29) kbody)
    (fun k σ μ => μ.length = 5 * k ∧ ∃ s1 s2 s3 s4 s5 s6 s7 s8, σ = [some (.scr ns), s1, s2, s3, s4, s5, s6, s7, s8]) 0 n (by omega)
    (fun k σ μ hk ⟨hl, s1, s2, s3, s4, s5, s6, s7, s8, hσ⟩ => by
      obtain ⟨μ', a2, a3, a4, a5, a6, a7, a8, hl', h⟩ := kstep k (by omega) ns s2 s3 s4 s5 s6 s7 s8 μ hl
      have e1 : (0 : Int) + (k : Int) = Int.ofNat k := by simp
      refine ⟨[some (.scr ns), some (.int (Int.ofNat k)), s2, s3, s4, s5, s6, s7, s8], _, μ', by rw [hσ, e1]; rfl, h, hl', _, _, _, _, _, _, _, _, rfl⟩)
    (σ := [some (.scr ns), none, none, none, none, none, none, none, none]) (μ := []) ⟨rfl, _, _, _, _, _, _, _, _, rfl⟩
  exact ⟨σ', μ', hf⟩
theorem plain (ns : List Int) (hn : ns.length ≤ 63) : run prog 30 44 [.scr ns] [] = .ok (.bl true) [] := by
  obtain ⟨n, hlt, hmm⟩ : ∃ n : Nat, n ≤ 4 ∧ max 2 (min 4 (Int.ofNat ns.length)) = Int.ofNat n := ⟨(max 2 (min 4 (Int.ofNat ns.length))).toNat, by omega, by simp only [Int.ofNat_eq_natCast]; omega⟩
  obtain ⟨σ', μ', hf⟩ := kloop ns hlt
  have h2 : ∃ r, minQ (.int 4) (.int (Int.ofNat ns.length)) = some r ∧ maxQ (.int 2) (.int r) = some (Int.ofNat n) := by
    refine ⟨if Int.ofNat ns.length < 4 then Int.ofNat ns.length else 4, rfl, ?_⟩
    simp only [maxQ, ← hmm, Option.some.injEq]
    split <;> split <;> omega
  obtain ⟨r, h3, h4⟩ := h2
  have hlen : lenQ (.scr ns) [] = some (Int.ofNat ns.length) := by simp only [lenQ, sqR, lsR, List.length_map]
  refine run_pureL (σ := [some (.scr ns), none, none, none, none, none, none, none, none]) fn_law rfl rfl rfl rfl (μ' := μ') ?_
  rw [law_eq]
  simp only [r_var, k_var, r_gl, r_non, r_bl, r_int, r_str, o_Bin2, x_Bin2, o_Bin, x_Bin, r_bin, o_Cmp2, x_Cmp2, o_Cmp, x_Cmp, r_cmp, o_Chn4, x_Chn4, o_Chn3, o_Chn2, o_Chn, x_Chn, r_chn, r_conj, r_disj, o_And, o_Or, r_And1, r_And2, r_And3, r_Or1, r_Or2, r_Or3, o_Not, r_not, o_Neg, r_neg, o_Ife, r_ife, o_Idx2, x_Idx2, o_Idx, x_Idx, r_idx, o_Slc3, o_Slc2, o_Slc, r_slc, r_pt0, o_Pt, r_pt1, o_EL2, o_EL, x_EL, x_EL2, r_nil, r_cons, o_St2, o_St1, o_St, r_star, o_Tup, x_Tup, o_Lst, x_Lst, r_tup, r_lst, r_dct, o_Bf1, x_Bf1, r_bf1, o_Bf22, x_Bf22, o_Bf2, x_Bf2, r_bf2, o_IsT, x_IsT, r_isT, o_Call, x_Call, r_call, o_CK2, o_CK, r_callK, o_Mth2, o_Mth1, o_Mth, r_mth, o_Turn2, o_Turn, o_Lc3, o_Lc2, r_lc_rng1, r_lc_rng2, r_lc_enu, r_lc_zip, r_all0, o_All, r_all1, o_Over, r_over, o_Rng1, r_rng1, o_Rng22, o_Rng2, r_rng2, r_sl0, r_sl, o_Seq, o_SeqR, o_SeqX, o_SeqC, o_Asg, x_Asg, r_asg, o_AT2, o_AT, r_asgT, o_Ret, x_Ret, r_ret, o_Expr, x_Expr, r_expr, o_Raise, r_raise, o_If, x_If, r_if, o_For, r_for, o_Sx3, o_Sx2, o_Sx, r_setx, r_doc, m_and, m_or, opt_some, okB_some, okI_some, newL_f, ofNat_toNat, map_some, List.getElem?_cons_zero, List.getElem?_cons_succ, List.set, bf1, Nat.reduceBEq, Bool.or_false, Bool.false_or, Bool.or_true, Bool.true_or, Bool.not_true, Bool.not_false, Bool.and_true, Bool.true_and, Bool.and_false, Bool.false_and, cond_true, cond_false, List.length_nil, List.length_cons, Nat.zero_add, Nat.reduceAdd, ble_zero, bg1, bg2, bg3, bg4, bg5, bg6, bg7, bg8, bg9, bg10, bg11, bg12, bg13, bg14, bg15, hlen, bf2, h3, h4, rng_ok (show n < 1000000 by omega), hf]
end K77
end HP
set_option Elab.async false
set_option linter.all false
set_option maxRecDepth 100000
set_option maxHeartbeats 0
namespace HP
namespace K77
open PySem PySem.Spec PyProof.Rows L2
abbrev RW0 : PySem.W.OpenRow := PySem.W.OpenLaw.row PySem.Challenge.rw_holepartner_k77_other_ready_tables
def nm0 : List Str := ["HoleError", "InvalidTable", "InvalidOperation", "InvalidWorld", "InvalidStanding", "InvalidRow", "InvalidNumber", "LETTERS", "is_integer", "is_within", "is_index", "is_list", "is_tuple", "ascends", "is_name", "check_many", "look_row", "counter", "latch", "stock", "MOST_OPERATIONS", "MOST_STANDINGS_tables", "MOST_TOLD", "is_item", "told_in", "is_row", "is_table", "items_of", "check_operation", "told_values"]
def nm1 : List Str := ["waiting", "is_blank", "is_look", "MOST_THINGS", "MOST_STANDINGS_worlds", "MOST_ROW", "many_of", "is_world", "check_world", "deeds_in", "deeds", "is_standing", "is_deed", "place_of", "done", "check_standing", "row_done", "do_row", "_law_cell", "_law_box", "_law_take", "_law_pick", "_law_same", "_law_copy", "_law_very", "_law_due", "_law_asked", "_law_table_right"]
def names : List Str := nm0 ++ nm1
abbrev hk : PySem.W.Hook := hookX 5 src
def ob (s : PySem.W.SharedT) : AlX := obsX 5 src (HandSHeadRun.getT s)
theorem ob_eq (s : PySem.W.SharedT) : ob s = hk.obs s.abs := obsX_eq (HandSHeadRun.getT_eq s)
theorem hrun (w : World) : HandSHeadRun.RunEq RW0 (PySem.W.view RW0.prog [64]) hk ob 4000 names w := by
  intro os
  kernel_rfl
end K77
end HP
set_option Elab.async false
set_option linter.all false
set_option maxRecDepth 100000
set_option maxHeartbeats 0
open PySem PySem.W PySem.Calls PyProof.Rows
theorem PySem.Challenge.cw_holepartner_k77_other_ready_tables_holds : PySem.Challenge.rw_holepartner_k77_other_ready_tables.Holds := by
  w_on; o_law
  refine HandSHeadRun.head_any (r := (OpenLaw.row PySem.Challenge.rw_holepartner_k77_other_ready_tables)) (q := view (OpenLaw.row PySem.Challenge.rw_holepartner_k77_other_ready_tables).prog [64]) (H := HP.K77.hk) (ob := HP.K77.ob) (M := 4000) (loose := HP.K77.names) (d := HandSHeadRun.topDef (OpenLaw.row PySem.Challenge.rw_holepartner_k77_other_ready_tables).prog 64) (kwd := []) HP.K77.ob_eq
    (by kernel_rfl) (fun s => by kernel_rfl) HP.K77.hrun (by kernel_rfl) (by kernel_rfl) (by kernel_rfl) (by rfl) (by first | assumption | decide +kernel) (by decide +kernel) ⟨rfl, rfl, rfl, rfl, rfl, by decide +kernel⟩ ?hw ?hc
  case hw => w_witness2
  case hc => exact HP.law_end (j := 44) (d := 30) (n := 5) HP.K77.stat rfl rfl rfl rfl rfl ⟨rfl, by decide, by decide⟩ HP.K77.plain
