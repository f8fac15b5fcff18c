import PyProof.Rows.All
import Wide.All
import OpenK.AllK
import Wide.FinOn
import HandS.ForMost
import HandS.ForExc
import KE.DataEq
import KE.KDictKeyed
import HandS.Style
import HandS.TupAny
import HandS.TupMul
import HandS.IsInst
import HandS.Zip
import HandS.SortInts
import HandS.Defaults
import PyProof.CollectIter
import KE.KStateDown
import HandS.Head0
import HandS.Head1
import HandS.Head2
import HandS.HeadEnd
import HandS.HeadHook1
import HandS.HeadHook2
import PySem.Challenge.RW_mindsteps_k10_whole_usual_deeds
set_option Elab.async false
set_option linter.all false
section
set_option maxRecDepth 100000
set_option autoImplicit false
namespace Mi
open PySem PySem.Spec L2

/-! ### what the reader computes with -/
abbrev D := PyData
inductive Val where
  | d (x : D)
  | r (i : Nat)
  | s (ns : List Int)
inductive MO where
  | lst (xs : List D)
  | dct (kvs : List (D × D))
  | ins (c : Nat) (fs : List (Str × Val))
  | gone
abbrev Sto := List MO
structure Exn where
  cls : Nat
  arg : Option D
inductive R (α : Type) where
  | ok (a : α) (s : Sto)
  | exc (e : Exn) (s : Sto)
  | bad
def R.bind {α β : Type} (x : R α) (f : α → Sto → R β) : R β := match x with
  | .ok a s => f a s
  | .exc e s => .exc e s
  | .bad => .bad
@[simp] theorem R.bind_ok {α β : Type} (a : α) (s : Sto) (f : α → Sto → R β) : (R.ok a s).bind f = f a s := rfl
@[simp] theorem R.bind_exc {α β : Type} (e : Exn) (s : Sto) (f : α → Sto → R β) : (R.exc e s : R α).bind f = .exc e s := rfl
@[simp] theorem R.bind_bad {α β : Type} (f : α → Sto → R β) : (R.bad : R α).bind f = .bad := rfl
abbrev Ev := List (Option Val)
abbrev EE := Ev → Sto → R Val
abbrev ET := Ev → Sto → R Bool
abbrev EA := Ev → Sto → R (List Val)
inductive Fl where
  | nx (env : Ev)
  | rt (v : Val)
  | bk (env : Ev)
  | ct (env : Ev)
  | ex (e : Exn) (env : Ev)
abbrev ES := Ev → Sto → R Fl
/-- an expression within a statement -/
def R.bindS {α : Type} (x : R α) (env : Ev) (f : α → Sto → R Fl) : R Fl := match x with
  | .ok a s => f a s
  | .exc e s => .ok (.ex e env) s
  | .bad => .bad

/-! ### how it stands in the heap -/
structure RC where
  K : PySem.W.Frag
  w : World
  cls : Nat → Addr
mutual
inductive Rep (C : RC) (G : Hp) : V → D → Prop
  | non : Rep C G .non .none
  | bl (b : Bool) : Rep C G (.bl b) (.bool b)
  | int (i : Int) : Rep C G (.int i) (.int i)
  | str (x : Str) : Rep C G (.str x) (.str x)
  | lst {a : Addr} {xs : List V} {ds : List D} : G a = some (.lst xs) → RepAll C G xs ds → Rep C G (.ref a) (.list ds)
  | tup {a : Addr} {xs : List V} {ds : List D} : SqT C.K G a xs → RepAll C G xs ds → Rep C G (.ref a) (.tuple ds)
inductive RepAll (C : RC) (G : Hp) : List V → List D → Prop
  | nil : RepAll C G [] []
  | cons {v : V} {vs : List V} {d : D} {ds : List D} : Rep C G v d → RepAll C G vs ds → RepAll C G (v :: vs) (d :: ds)
end
def Sub (G G' : Hp) : Prop := ∀ a o, G a = some o → G' a = some o
theorem Sub.refl (G : Hp) : Sub G G := fun _ _ h => h
theorem Sub.trans {A B E : Hp} (a : Sub A B) (b : Sub B E) : Sub A E := fun c o h => b c o (a c o h)
theorem Rd.sub {G G' : Hp} (s : Sub G G') {a : Addr} {u : HO} (h : Rd G a u) : Rd G' a u := by
  rcases h with h | ⟨o, h⟩
  · exact .inl (s _ _ h)
  · exact .inr ⟨o, s _ _ h⟩
theorem SqL.sub {K : PySem.W.Frag} {G G' : Hp} (s : Sub G G') {a : Addr} {xs : List V} (h : SqL K G a xs) : SqL K G' a xs := by
  rcases h with h | h
  · exact .inl (Rd.sub s h)
  · exact .inr h
theorem SqT.sub {K : PySem.W.Frag} {G G' : Hp} (s : Sub G G') {a : Addr} {xs : List V} (h : SqT K G a xs) : SqT K G' a xs := by
  rcases h with h | h
  · exact .inl (Rd.sub s h)
  · exact .inr h
mutual
theorem Rep.sub {C : RC} {G G' : Hp} (s : Sub G G') : ∀ {d : D} {v : V}, Rep C G v d → Rep C G' v d
  | .none, _, h => by cases h; exact .non
  | .bool b, _, h => by cases h; exact .bl _
  | .int b, _, h => by cases h; exact .int _
  | .str b, _, h => by cases h; exact .str _
  | .list ds, _, h => by
    cases h with
    | lst q r => exact .lst (s _ _ q) (RepAll.sub s r)
  | .tuple ds, _, h => by
    cases h with
    | tup q r => exact .tup (SqT.sub s q) (RepAll.sub s r)
  | .dict _, _, h => by cases h
theorem RepAll.sub {C : RC} {G G' : Hp} (s : Sub G G') : ∀ {ds : List D} {vs : List V}, RepAll C G vs ds → RepAll C G' vs ds
  | [], _, h => by cases h; exact .nil
  | _ :: _, _, h => by
    cases h with
    | cons q r => exact .cons (Rep.sub s q) (RepAll.sub s r)
end
theorem RepAll.length {C : RC} {G : Hp} : ∀ {ds : List D} {vs : List V}, RepAll C G vs ds → vs.length = ds.length
  | [], _, h => by cases h; rfl
  | _ :: _, _, h => by
    cases h with
    | cons q r => simp [RepAll.length r]
theorem RepAll.get {C : RC} {G : Hp} : ∀ {ds : List D} {vs : List V} {i : Nat} {d : D}, RepAll C G vs ds → ds[i]? = some d → ∃ v, vs[i]? = some v ∧ Rep C G v d
  | [], _, _, _, h, e => by simp at e
  | _ :: _, _, 0, _, h, e => by
    cases h with
    | cons q r => simp at e; subst e; exact ⟨_, rfl, q⟩
  | _ :: _, _, i + 1, _, h, e => by
    cases h with
    | cons q r => simpa using RepAll.get r (by simpa using e)
theorem RepAll.getV {C : RC} {G : Hp} : ∀ {ds : List D} {vs : List V} {i : Nat} {v : V}, RepAll C G vs ds → vs[i]? = some v → ∃ d, ds[i]? = some d ∧ Rep C G v d
  | [], _, _, _, h, e => by cases h; simp at e
  | _ :: _, _, 0, _, h, e => by
    cases h with
    | cons q r => simp at e; subst e; exact ⟨_, rfl, q⟩
  | _ :: _, _, i + 1, _, h, e => by
    cases h with
    | cons q r => simpa using RepAll.getV r (by simpa using e)
theorem RepAll.append {C : RC} {G : Hp} : ∀ {ds es : List D} {vs us : List V}, RepAll C G vs ds → RepAll C G us es → RepAll C G (vs ++ us) (ds ++ es)
  | [], _, _, _, h, k => by cases h; exact k
  | _ :: _, _, _, _, h, k => by
    cases h with
    | cons q r => exact .cons q (RepAll.append r k)
theorem RepAll.take {C : RC} {G : Hp} : ∀ (n : Nat) {ds : List D} {vs : List V}, RepAll C G vs ds → RepAll C G (vs.take n) (ds.take n)
  | 0, _, _, h => by simpa using RepAll.nil
  | n + 1, [], _, h => by cases h; exact .nil
  | n + 1, _ :: _, _, h => by
    cases h with
    | cons q r => exact .cons q (RepAll.take n r)
theorem RepAll.drop {C : RC} {G : Hp} : ∀ (n : Nat) {ds : List D} {vs : List V}, RepAll C G vs ds → RepAll C G (vs.drop n) (ds.drop n)
  | 0, _, _, h => h
  | n + 1, [], _, h => by cases h; exact .nil
  | n + 1, _ :: _, _, h => by
    cases h with
    | cons q r => exact RepAll.drop n r
theorem RepAll.set {C : RC} {G : Hp} {d : D} {v : V} (k : Rep C G v d) : ∀ (n : Nat) {ds : List D} {vs : List V}, RepAll C G vs ds → RepAll C G (vs.set n v) (ds.set n d)
  | _, [], _, h => by cases h; exact .nil
  | 0, _ :: _, _, h => by
    cases h with
    | cons q r => exact .cons k r
  | n + 1, _ :: _, _, h => by
    cases h with
    | cons q r => exact .cons q (RepAll.set k n r)
theorem RepAll.rev {C : RC} {G : Hp} : ∀ {ds : List D} {vs : List V}, RepAll C G vs ds → RepAll C G vs.reverse ds.reverse
  | [], _, h => by cases h; exact .nil
  | _ :: _, _, h => by
    cases h with
    | cons q r => simpa using RepAll.append (RepAll.rev r) (.cons q .nil)
mutual
theorem Rep.dp {C : RC} {G H : Hp} (s : Sub G H) : ∀ {d : D} {v : V}, Rep C G v d → Dp C.K H v d
  | .none, _, h => by cases h; exact .non
  | .bool b, _, h => by cases h; exact .bl _
  | .int b, _, h => by cases h; exact .int _
  | .str b, _, h => by cases h; exact .str _
  | .list ds, _, h => by
    cases h with
    | lst q r => exact .lst (SqL.of (s _ _ q)) (RepAll.dp s r)
  | .tuple ds, _, h => by
    cases h with
    | tup q r => exact .tup (SqT.sub s q) (RepAll.dp s r)
  | .dict _, _, h => by cases h
theorem RepAll.dp {C : RC} {G H : Hp} (s : Sub G H) : ∀ {ds : List D} {vs : List V}, RepAll C G vs ds → DpAll C.K H vs ds
  | [], _, h => by cases h; exact .nil
  | _ :: _, _, h => by
    cases h with
    | cons q r => exact .cons (Rep.dp s q) (RepAll.dp s r)
end
inductive RepV (C : RC) (G : Hp) (m : List Addr) : V → Val → Prop
  | d {v : V} {x : D} : Rep C G v x → RepV C G m v (.d x)
  | r {i : Nat} {a : Addr} : m[i]? = some a → RepV C G m (.ref a) (.r i)
  | s {a : Addr} {ns : List Int} : SqL C.K G a (ns.map V.int) → RepV C G m (.ref a) (.s ns)
inductive RepVs (C : RC) (G : Hp) (m : List Addr) : List V → List Val → Prop
  | nil : RepVs C G m [] []
  | cons {v : V} {vs : List V} {x : Val} {xs : List Val} : RepV C G m v x → RepVs C G m vs xs → RepVs C G m (v :: vs) (x :: xs)
def MRep (C : RC) (G : Hp) (m : List Addr) (H : Hp) (a : Addr) : MO → Prop
  | .lst xs => ∃ vs, H a = some (.lst vs) ∧ RepAll C G vs xs
  | .dct _ => False
  | .ins c fs => ∃ dx vs, H a = some (.ins (C.cls c) dx vs) ∧ vs.map (·.1) = fs.map (·.1) ∧ RepVs C G m (vs.map (·.2)) (fs.map (·.2))
  | .gone => True
structure Rl (C : RC) (G : Hp) (m : List Addr) (H : Hp) (st : Sto) : Prop where
  sub : Sub G H
  len : m.length = st.length
  nd : m.Nodup
  liv : ∀ a ∈ m, H a ≠ none
  out : ∀ (i : Nat) (a : Addr) (o : MO), m[i]? = some a → st[i]? = some o → o ≠ .gone → G a = none
  obj : ∀ (i : Nat) (o : MO) (a : Addr), st[i]? = some o → m[i]? = some a → MRep C G m H a o
/-- from one state to a later one: what is frozen stays, the mutable ones keep their numbers, all that is neither stays -/
structure Ext (G : Hp) (m : List Addr) (H : Hp) (G' : Hp) (m' : List Addr) (H' : Hp) : Prop where
  sub : Sub G G'
  pre : ∀ (i : Nat) (a : Addr), m[i]? = some a → m'[i]? = some a
  frm : ∀ (a : Addr) (o : HO), H a = some o → a ∉ m → H' a = some o
  new : ∀ a ∈ m', a ∈ m ∨ H a = none
  gn : ∀ a, G' a ≠ none → G a ≠ none ∨ a ∈ m ∨ H a = none
theorem Ext.refl (G : Hp) (m : List Addr) (H : Hp) : Ext G m H G m H := ⟨Sub.refl G, fun _ _ h => h, fun _ _ h _ => h, fun _ h => .inl h, fun _ h => .inl h⟩
theorem Ext.trans {A B E : Hp} {m n k : List Addr} {H H1 H2 : Hp} (a : Ext A m H B n H1) (b : Ext B n H1 E k H2) : Ext A m H E k H2 := by
  refine ⟨a.sub.trans b.sub, fun i x h => b.pre i x (a.pre i x h), fun c o h hc => b.frm c o (a.frm c o h hc) fun hn => ?_, fun c hc => ?_, fun c hc => ?_⟩
  · rcases a.new c hn with z | z
    · exact hc z
    · rw [h] at z; cases z
  · rcases b.new c hc with z | z
    · exact a.new c z
    · by_cases hm : c ∈ m
      · exact .inl hm
      · refine .inr ?_
        cases q : H c with
        | none => rfl
        | some o => rw [a.frm c o q hm] at z; cases z
  · rcases b.gn c hc with z | z | z
    · exact a.gn c z
    · rcases a.new c z with z | z
      · exact .inr (.inl z)
      · exact .inr (.inr z)
    · by_cases hm : c ∈ m
      · exact .inr (.inl hm)
      · refine .inr (.inr ?_)
        cases q : H c with
        | none => rfl
        | some o => rw [a.frm c o q hm] at z; cases z
theorem RepV.ext {C : RC} {G G' : Hp} {m m' : List Addr} {H H' : Hp} (e : Ext G m H G' m' H') {v : V} {x : Val} (h : RepV C G m v x) : RepV C G' m' v x := by
  cases h with
  | d h => exact .d (h.sub e.sub)
  | r h => exact .r (e.pre _ _ h)
  | s h => exact .s (SqL.sub e.sub h)
theorem RepVs.ext {C : RC} {G G' : Hp} {m m' : List Addr} {H H' : Hp} (e : Ext G m H G' m' H') : ∀ {vs : List V} {xs : List Val}, RepVs C G m vs xs → RepVs C G' m' vs xs
  | _, _, .nil => .nil
  | _, _, .cons h r => .cons (h.ext e) (RepVs.ext e r)
theorem RepVs.length {C : RC} {G : Hp} {m : List Addr} : ∀ {vs : List V} {xs : List Val}, RepVs C G m vs xs → vs.length = xs.length
  | _, _, .nil => rfl
  | _, _, .cons h r => by simp [RepVs.length r]
theorem RepVs.get {C : RC} {G : Hp} {m : List Addr} : ∀ {vs : List V} {xs : List Val} {i : Nat} {x : Val}, RepVs C G m vs xs → xs[i]? = some x → ∃ v, vs[i]? = some v ∧ RepV C G m v x
  | _, _, _, _, .nil, e => by simp at e
  | _, _, 0, _, .cons h r, e => by simp at e; subst e; exact ⟨_, rfl, h⟩
  | _, _, i + 1, _, .cons h r, e => by simpa using RepVs.get r (by simpa using e)
def EnvR (C : RC) (G : Hp) (m : List Addr) (σ : St) (env : Ev) : Prop := σ.length = env.length ∧ ∀ (i : Nat) (v : Val), env[i]? = some (some v) → ∃ x, σ[i]? = some (some x) ∧ RepV C G m x v
theorem EnvR.ext {C : RC} {G G' : Hp} {m m' : List Addr} {H H' : Hp} (e : Ext G m H G' m' H') {σ : St} {env : Ev} (h : EnvR C G m σ env) : EnvR C G' m' σ env :=
  ⟨h.1, fun i v q => let ⟨x, a, b⟩ := h.2 i v q; ⟨x, a, b.ext e⟩⟩
theorem EnvR.set {C : RC} {G : Hp} {m : List Addr} {σ : St} {env : Ev} {x : V} {v : Val} (h : EnvR C G m σ env) (k : RepV C G m x v) (i : Nat) : EnvR C G m (σ.set i (some x)) (env.set i (some v)) := by
  refine ⟨by simpa using h.1, fun j u q => ?_⟩
  by_cases e : i = j
  · subst e
    by_cases hl : i < env.length
    · rw [List.getElem?_set_self hl] at q
      cases q
      exact ⟨x, List.getElem?_set_self (by rw [h.1]; exact hl), k⟩
    · rw [List.getElem?_eq_none (by simpa using hl)] at q
      cases q
  · rw [List.getElem?_set_ne e] at q ⊢
    exact h.2 j u q

/-! ### new things -/
section
variable {C : RC} {G : Hp} {m : List Addr} {H : Hp} {st : Sto}
theorem Sub.upd {G : Hp} {p : Addr} {o : HO} (h : G p = none) : Sub G (upd G p o) := fun a u e => by
  by_cases q : a = p
  · subst q; rw [h] at e; cases e
  · rw [upd_ne q]; exact e
theorem sub_upd {G H : Hp} {p : Addr} {o : HO} (s : Sub G H) : Sub (upd G p o) (upd H p o) := fun a u e => by
  by_cases q : a = p
  · subst q; rw [upd_same] at e ⊢; exact e
  · rw [upd_ne q] at e ⊢; exact s _ _ e
theorem Rl.freeG (r : Rl C G m H st) {p : Addr} (h : H p = none) : G p = none := by
  cases e : G p with
  | none => rfl
  | some o => rw [r.sub _ _ e] at h; cases h
theorem Rl.notin (r : Rl C G m H st) {p : Addr} (h : H p = none) : p ∉ m := fun k => r.liv p k h
theorem MRep.mono {G' H' H1 H2 : Hp} {m' : List Addr} (e : Ext G m H1 G' m' H2) {a : Addr} {o : MO} (h : MRep C G m H a o) (k : ∀ u, H a = some u → H' a = some u) : MRep C G' m' H' a o := by
  cases o with
  | lst xs => obtain ⟨vs, q, r⟩ := h; exact ⟨vs, k _ q, r.sub e.sub⟩
  | dct _ => exact h
  | ins c fs => obtain ⟨dx, vs, q, n, r⟩ := h; exact ⟨dx, vs, k _ q, n, r.ext e⟩
  | gone => trivial
/-- a frozen object is laid -/
theorem Rl.laid (r : Rl C G m H st) {p : Addr} (h : H p = none) (o : HO) : Rl C (upd G p o) m (upd H p o) st ∧ Ext G m H (upd G p o) m (upd H p o) := by
  have hg := r.freeG h
  have hm := r.notin h
  have ex : Ext G m H (upd G p o) m (upd H p o) := ⟨Sub.upd hg, fun _ _ z => z, fun a u z _ => by rw [upd_ne (ne_of_none z h)]; exact z, fun _ z => .inl z, fun a z => by
    by_cases q : a = p
    · subst q; exact .inr (.inr h)
    · rw [upd_ne q] at z; exact .inl z⟩
  have ne : ∀ a ∈ m, a ≠ p := fun a ha e => hm (e ▸ ha)
  refine ⟨⟨sub_upd r.sub, r.len, r.nd, fun a ha => by rw [upd_ne (ne a ha)]; exact r.liv a ha, fun i a u e1 e2 e3 => ?_, fun i u a e1 e2 => ?_⟩, ex⟩
  · rw [upd_ne (ne a (List.mem_of_getElem? e1))]; exact r.out i a u e1 e2 e3
  · refine (r.obj i u a e1 e2).mono ex fun z q => ?_
    rw [upd_ne (ne a (List.mem_of_getElem? e2))]; exact q
/-- a mutable one -/
theorem Rl.alloc (r : Rl C G m H st) {p : Addr} (h : H p = none) (o : HO) (mo : MO) (k : MRep C G (m ++ [p]) (upd H p o) p mo) : Rl C G (m ++ [p]) (upd H p o) (st ++ [mo]) ∧ Ext G m H G (m ++ [p]) (upd H p o) := by
  have hg := r.freeG h
  have hm := r.notin h
  have pre : ∀ (i : Nat) (a : Addr), m[i]? = some a → (m ++ [p])[i]? = some a := fun i a e => by
    rw [List.getElem?_append_left (List.getElem?_eq_some_iff.mp e).1]; exact e
  have ex : Ext G m H G (m ++ [p]) (upd H p o) := ⟨Sub.refl G, pre, fun a u z _ => by rw [upd_ne (ne_of_none z h)]; exact z, fun a z => (List.mem_append.mp z).imp id fun q => by simp at q; subst q; exact h, fun _ z => .inl z⟩
  have ne : ∀ a ∈ m, a ≠ p := fun a ha e => hm (e ▸ ha)
  have cut : ∀ (i : Nat) (a : Addr) (u : MO), (m ++ [p])[i]? = some a → (st ++ [mo])[i]? = some u → (m[i]? = some a ∧ st[i]? = some u) ∨ (a = p ∧ u = mo) := fun i a u e1 e2 => by
    by_cases hi : i < m.length
    · rw [List.getElem?_append_left hi] at e1
      rw [List.getElem?_append_left (by rw [← r.len]; exact hi)] at e2
      exact .inl ⟨e1, e2⟩
    · have h1 : i < (m ++ [p]).length := (List.getElem?_eq_some_iff.mp e1).1
      have h2 : i = m.length := by simp at h1; omega
      subst h2
      rw [List.getElem?_append_right (Nat.le_refl _)] at e1
      rw [r.len, List.getElem?_append_right (Nat.le_refl _)] at e2
      simp at e1 e2
      exact .inr ⟨e1.symm, e2.symm⟩
  refine ⟨⟨fun a u e => ?_, by simp [r.len], ?_, fun a ha => ?_, fun i a u e1 e2 e3 => ?_, fun i u a e1 e2 => ?_⟩, ex⟩
  · rw [upd_ne (fun z => by subst z; rw [hg] at e; cases e)]; exact r.sub _ _ e
  · exact List.nodup_append.mpr ⟨r.nd, by simp, fun a ha b hb => by simp at hb; subst hb; exact ne a ha⟩
  · rcases List.mem_append.mp ha with q | q
    · rw [upd_ne (ne a q)]; exact r.liv a q
    · simp at q; subst q; rw [upd_same]; simp
  · rcases cut i a u e1 e2 with ⟨z1, z2⟩ | ⟨z1, z2⟩
    · exact r.out i a u z1 z2 e3
    · subst z1; exact hg
  · rcases cut i a u e2 e1 with ⟨z1, z2⟩ | ⟨z1, z2⟩
    · exact (r.obj i u a z2 z1).mono ex fun z q => by rw [upd_ne (ne a (List.mem_of_getElem? z1))]; exact q
    · subst z1; subst z2; exact k
theorem nodup_get {l : List Addr} (h : l.Nodup) {i j : Nat} {a : Addr} (e1 : l[i]? = some a) (e2 : l[j]? = some a) : i = j := by
  obtain ⟨h1, q1⟩ := List.getElem?_eq_some_iff.mp e1
  obtain ⟨h2, q2⟩ := List.getElem?_eq_some_iff.mp e2
  exact (List.getElem_inj h).mp (q1.trans q2.symm)
/-- a mutable object is written -/
theorem Rl.write (r : Rl C G m H st) {i : Nat} {a : Addr} {u : MO} (e1 : m[i]? = some a) (e2 : st[i]? = some u) (hu : u ≠ .gone) (o : HO) (mo : MO) (k : MRep C G m (upd H a o) a mo) : Rl C G m (upd H a o) (st.set i mo) ∧ Ext G m H G m (upd H a o) := by
  have hg := r.out i a u e1 e2 hu
  have hi : i < st.length := (List.getElem?_eq_some_iff.mp e2).1
  have cut : ∀ (j : Nat) (b : Addr) (x : MO), m[j]? = some b → (st.set i mo)[j]? = some x → (j = i ∧ b = a ∧ x = mo) ∨ (b ≠ a ∧ st[j]? = some x) := fun j b x q1 q2 => by
    by_cases hj : j = i
    · subst hj
      rw [e1] at q1; cases q1
      rw [List.getElem?_set_self hi] at q2; cases q2
      exact .inl ⟨rfl, rfl, rfl⟩
    · rw [List.getElem?_set_ne (Ne.symm hj)] at q2
      refine .inr ⟨fun z => ?_, q2⟩
      subst z
      exact hj (nodup_get r.nd q1 e1)
  refine ⟨⟨fun b x e => ?_, by simp [r.len], r.nd, fun b hb => ?_, fun j b x q1 q2 q3 => ?_, fun j x b q1 q2 => ?_⟩, ⟨Sub.refl G, fun _ _ z => z, fun b u z hb => by rw [upd_ne (fun q => hb (by rw [q]; exact List.mem_of_getElem? e1))]; exact z, fun _ z => .inl z, fun _ z => .inl z⟩⟩
  · rw [upd_ne (fun z => by subst z; rw [hg] at e; cases e)]; exact r.sub _ _ e
  · by_cases z : b = a
    · subst z; rw [upd_same]; simp
    · rw [upd_ne z]; exact r.liv b hb
  · rcases cut j b x q1 q2 with ⟨z1, z2, z3⟩ | ⟨z1, z2⟩
    · rw [z2]; exact hg
    · exact r.out j b x q1 z2 q3
  · rcases cut j b x q2 q1 with ⟨z1, z2, z3⟩ | ⟨z1, z2⟩
    · rw [z2, z3]; exact k
    · exact (r.obj j x b z2 q2).mono (Ext.refl G m H) fun z q => by rw [upd_ne z1]; exact q
/-- a mutable list is frozen -/
theorem Rl.freeze (r : Rl C G m H st) {i : Nat} {a : Addr} {xs : List D} (e1 : m[i]? = some a) (e2 : st[i]? = some (.lst xs)) :
    ∃ G', Rl C G' m H (st.set i .gone) ∧ Ext G m H G' m H ∧ Rep C G' (.ref a) (.list xs) := by
  obtain ⟨vs, hv, rv⟩ := r.obj i _ a e2 e1
  have hg := r.out i a _ e1 e2 (by simp)
  have ex : Ext G m H (upd G a (.lst vs)) m H := ⟨Sub.upd hg, fun _ _ z => z, fun _ _ z _ => z, fun _ z => .inl z, fun b z => by
    by_cases q : b = a
    · subst q; exact .inr (.inl (List.mem_of_getElem? e1))
    · rw [upd_ne q] at z; exact .inl z⟩
  have hi : i < st.length := (List.getElem?_eq_some_iff.mp e2).1
  have cut : ∀ (j : Nat) (b : Addr) (x : MO), m[j]? = some b → (st.set i .gone)[j]? = some x → (j = i ∧ b = a ∧ x = .gone) ∨ (b ≠ a ∧ st[j]? = some x) := fun j b x q1 q2 => by
    by_cases hj : j = i
    · subst hj
      rw [e1] at q1; cases q1
      rw [List.getElem?_set_self hi] at q2; cases q2
      exact .inl ⟨rfl, rfl, rfl⟩
    · rw [List.getElem?_set_ne (Ne.symm hj)] at q2
      refine .inr ⟨fun z => ?_, q2⟩
      subst z
      exact hj (nodup_get r.nd q1 e1)
  refine ⟨upd G a (.lst vs), ⟨fun b x e => ?_, by simp [r.len], r.nd, r.liv, fun j b x q1 q2 q3 => ?_, fun j x b q1 q2 => ?_⟩, ex, .lst upd_same (rv.sub ex.sub)⟩
  · by_cases z : b = a
    · subst z; rw [upd_same] at e; cases e; exact hv
    · rw [upd_ne z] at e; exact r.sub _ _ e
  · rcases cut j b x q1 q2 with ⟨z1, z2, z3⟩ | ⟨z1, z2⟩
    · exact absurd z3 q3
    · rw [upd_ne z1]; exact r.out j b x q1 z2 q3
  · rcases cut j b x q2 q1 with ⟨z1, z2, z3⟩ | ⟨z1, z2⟩
    · rw [z3]; trivial
    · exact (r.obj j x b z2 q2).mono ex fun z q => q
end

/-! ### judgements -/
abbrev XW := Value → Option Addr → Hp → Prop
/-- an exception as it leaves: its class, its own dict -/
def ExcR (C : RC) (G H : Hp) (e : Exn) (cls : Value) (d : Option Addr) : Prop := cls = .ref (C.cls e.cls) ∧ match e.arg with
  | none => d = none
  | some x => ∃ a n v, d = some a ∧ H a = some (.xd [(n, v)]) ∧ Rep C G v x
def Post {α β : Type} (C : RC) (rel : Hp → List Addr → β → α → Prop) (G : Hp) (m : List Addr) (H : Hp) (Q : β → Hp → Prop) (W : XW) : R α → Prop
  | .ok v st => ∀ x H' G' m', Ext G m H G' m' H' → Rl C G' m' H' st → rel G' m' x v → Q x H'
  | .exc e st => ∀ cls d H' G' m', Ext G m H G' m' H' → Rl C G' m' H' st → ExcR C G' H' e cls d → W cls d H'
  | .bad => False
def tE (C : RC) (W : WX) (ev : EE) : TE := fun σ H Q => ∃ G m env st, Rl C G m H st ∧ EnvR C G m σ env ∧ Post C (RepV C) G m H Q (fun c d H' => W c d σ H') (ev env st)
def relB (_ : Hp) (_ : List Addr) (x : Bool) (v : Bool) : Prop := x = v
def tT (C : RC) (W : WX) (ev : ET) : TT := fun σ H Q => ∃ G m env st, Rl C G m H st ∧ EnvR C G m σ env ∧ Post C relB G m H Q (fun c d H' => W c d σ H') (ev env st)
def tA (C : RC) (W : WX) (ev : EA) : TA := fun σ H Q => ∃ G m env st, Rl C G m H st ∧ EnvR C G m σ env ∧ Post C (RepVs C) G m H Q (fun c d H' => W c d σ H') (ev env st)
def PostS (C : RC) (G : Hp) (m : List Addr) (H : Hp) (E : Ends) (W : WX) : R Fl → Prop
  | .ok (.nx env) st => ∀ σ' H' G' m', Ext G m H G' m' H' → Rl C G' m' H' st → EnvR C G' m' σ' env → E.nx σ' H'
  | .ok (.bk env) st => ∀ σ' H' G' m', Ext G m H G' m' H' → Rl C G' m' H' st → EnvR C G' m' σ' env → E.bk σ' H'
  | .ok (.ct env) st => ∀ σ' H' G' m', Ext G m H G' m' H' → Rl C G' m' H' st → EnvR C G' m' σ' env → E.ct σ' H'
  | .ok (.rt v) st => ∀ x H' G' m', Ext G m H G' m' H' → Rl C G' m' H' st → RepV C G' m' x v → E.rt x H'
  | .ok (.ex e env) st => ∀ cls d σ' H' G' m', Ext G m H G' m' H' → Rl C G' m' H' st → EnvR C G' m' σ' env → ExcR C G' H' e cls d → W cls d σ' H'
  | .exc _ _ => False
  | .bad => False
def tS (C : RC) (W : WX) (ev : ES) : TS := fun E σ H => ∃ G m env st, Rl C G m H st ∧ EnvR C G m σ env ∧ PostS C G m H E W (ev env st)
end Mi
end

section
set_option maxRecDepth 100000
set_option autoImplicit false
namespace Mi
open PySem PySem.Spec L2

/-! ### moving along -/
section
variable {α β : Type} {C : RC} {G G' : Hp} {m m' : List Addr} {H H' : Hp} {W : XW}
theorem Post.ext {rel : Hp → List Addr → β → α → Prop} {Q : β → Hp → Prop} (e : Ext G m H G' m' H') {x : R α} (h : Post C rel G m H Q W x) : Post C rel G' m' H' Q W x := by
  cases x with
  | ok v st => exact fun x H2 G2 m2 e2 => h x H2 G2 m2 (e.trans e2)
  | exc v st => exact fun cls d H2 G2 m2 e2 => h cls d H2 G2 m2 (e.trans e2)
  | bad => exact h
theorem PostS.ext {E : Ends} {WS : WX} (e : Ext G m H G' m' H') {x : R Fl} (h : PostS C G m H E WS x) : PostS C G' m' H' E WS x := by
  cases x with
  | ok v st =>
    cases v with
    | nx env => exact fun σ' H2 G2 m2 e2 => h σ' H2 G2 m2 (e.trans e2)
    | bk env => exact fun σ' H2 G2 m2 e2 => h σ' H2 G2 m2 (e.trans e2)
    | ct env => exact fun σ' H2 G2 m2 e2 => h σ' H2 G2 m2 (e.trans e2)
    | rt v => exact fun σ' H2 G2 m2 e2 => h σ' H2 G2 m2 (e.trans e2)
    | ex v env => exact fun cls d σ' H2 G2 m2 e2 => h cls d σ' H2 G2 m2 (e.trans e2)
  | exc v st => exact h
  | bad => exact h
theorem Post.bindE {γ δ : Type} {rel : Hp → List Addr → β → α → Prop} {rel2 : Hp → List Addr → δ → γ → Prop} {Q : β → Hp → Prop} {Q2 : δ → Hp → Prop} {x : R α} {f : α → Sto → R γ} (h : Post C rel2 G m H Q2 W (x.bind f))
    (k : ∀ v st a H1 G1 m1, x = .ok v st → Ext G m H G1 m1 H1 → Rl C G1 m1 H1 st → rel G1 m1 a v → Post C rel2 G1 m1 H1 Q2 W (f v st) → Q a H1) : Post C rel G m H Q W x := by
  cases x with
  | ok v st => exact fun a H1 G1 m1 e rl rp => k v st a H1 G1 m1 rfl e rl rp (Post.ext e h)
  | exc v st => exact h
  | bad => exact h
/-- what a statement asks behind an expression -/
theorem Post.bindS {rel : Hp → List Addr → β → α → Prop} {Q : β → Hp → Prop} {E : Ends} {WS : WX} {σ : L2.St} {env : Ev} {x : R α} {f : α → Sto → R Fl} (en : EnvR C G m σ env) (h : PostS C G m H E WS (x.bindS env f))
    (k : ∀ v st a H1 G1 m1, x = .ok v st → Ext G m H G1 m1 H1 → Rl C G1 m1 H1 st → rel G1 m1 a v → PostS C G1 m1 H1 E WS (f v st) → Q a H1) : Post C rel G m H Q (fun c d H' => WS c d σ H') x := by
  cases x with
  | ok v st => exact fun a H1 G1 m1 e rl rp => k v st a H1 G1 m1 rfl e rl rp (PostS.ext e h)
  | exc v st => exact fun cls d H' G2 m2 e rl => h cls d σ H' G2 m2 e rl (en.ext e)
  | bad => exact h
def R.of {α : Type} : Option (α × Sto) → R α
  | some p => .ok p.1 p.2
  | none => .bad
@[simp] theorem R.of_some {α : Type} (a : α) (s : Sto) : R.of (some (a, s)) = .ok a s := rfl
@[simp] theorem R.of_none {α : Type} : R.of (none : Option (α × Sto)) = .bad := rfl
def PostO (C : RC) (rel : Hp → List Addr → β → α → Prop) (G : Hp) (m : List Addr) (H : Hp) (Q : β → Hp → Prop) : Option (α × Sto) → Prop
  | some p => ∀ x H' G' m', Ext G m H G' m' H' → Rl C G' m' H' p.2 → rel G' m' x p.1 → Q x H'
  | none => False
theorem Post.of {rel : Hp → List Addr → β → α → Prop} {Q : β → Hp → Prop} {o : Option (α × Sto)} (h : Post C rel G m H Q W (R.of o)) : PostO C rel G m H Q o := by
  cases o with
  | none => exact h
  | some p => exact h
end
section
variable {X : Cx} {e : Expr}
theorem _root_.L2.PE.impM {t t' : TE} (h : PE X e t) (i : ∀ σ H Q, t' σ H Q → t σ H Q) : PE X e t' := ⟨fun pins s σ H Q I q => h.run pins s σ H Q I (i _ _ _ q)⟩
theorem _root_.L2.PT.impM {t t' : TT} (h : PT X e t) (i : ∀ σ H Q, t' σ H Q → t σ H Q) : PT X e t' := ⟨fun pins s σ H Q I q => h.run pins s σ H Q I (i _ _ _ q)⟩
theorem _root_.L2.PW.impM {t t' : TT} (h : PW X e t) (i : ∀ σ H Q, t' σ H Q → t σ H Q) : PW X e t' := ⟨fun wh pins s σ H Q I q => h.run wh pins s σ H Q I (i _ _ _ q)⟩
theorem _root_.L2.PA.impM {es : List Expr} {t t' : TA} (h : PA X es t) (i : ∀ σ H Q, t' σ H Q → t σ H Q) : PA X es t' := ⟨fun pos pins s σ H Q I q => h.run pos pins s σ H Q I (i _ _ _ q)⟩
theorem _root_.L2.PS.impM {st : Stmt} {t t' : TS} (h : PS X st t) (i : ∀ D σ H, t' D σ H → t D σ H) : PS X st t' := ⟨fun pins s σ H D I q => h.run pins s σ H D I (i _ _ _ q)⟩
theorem _root_.L2.PSs.impM {st : List Stmt} {t t' : TS} (h : PSs X st t) (i : ∀ D σ H, t' D σ H → t D σ H) : PSs X st t' := ⟨fun pins s σ H D I q => h.run pins s σ H D I (i _ _ _ q)⟩
theorem opR_imp {f : Value → Value → Sem Value} {r r' : R2} (h : OpR X f r) (i : ∀ x y H Q, r' x y H Q → r x y H Q) : OpR X f r' := fun pins s σ H x y v u Q I rx ry q => h pins s σ H x y v u Q I rx ry (i _ _ _ _ q)
theorem callR_imp {f : Value} {r r' : List V → Hp → VK → Prop} (h : CallR X f r) (i : ∀ xs H Q, r' xs H Q → r xs H Q) : CallR X f r' := fun pins s σ H xs us Q I rx q => h pins s σ H xs us Q I rx (i _ _ _ q)
end

/-! ### the judgements -/
abbrev rc (X : Cx) (cl : Nat → Addr) : RC := ⟨X.K, X.w, cl⟩
abbrev SE (cl : Nat → Addr) (X : Cx) (W : WX) (e : Expr) (ev : EE) : Prop := PE X e (tE (rc X cl) W ev)
abbrev ST (cl : Nat → Addr) (X : Cx) (W : WX) (e : Expr) (ev : ET) : Prop := PT X e (tT (rc X cl) W ev)
abbrev SW (cl : Nat → Addr) (X : Cx) (W : WX) (e : Expr) (ev : ET) : Prop := PW X e (tT (rc X cl) W ev)
abbrev SA (cl : Nat → Addr) (X : Cx) (W : WX) (es : List Expr) (ev : EA) : Prop := PA X es (tA (rc X cl) W ev)
abbrev SS (cl : Nat → Addr) (X : Cx) (W : WX) (s : Stmt) (ev : ES) : Prop := PS X s (tS (rc X cl) W ev)
abbrev SSs (cl : Nat → Addr) (X : Cx) (W : WX) (s : List Stmt) (ev : ES) : Prop := PSs X s (tS (rc X cl) W ev)

/-! ### names, constants -/
section
variable {cl : Nat → Addr} {X : Cx} {W : WX} {pos : Pos}
def eVar (i : Nat) : EE := fun env st => match env[i]? with
  | some (some v) => .ok v st
  | _ => .bad
theorem se_var (i : Nat) {x : Str} (hN : X.N[i]? = some x := by rfl) (hv : Vis X.env.scope x := by first | exact Or.inl rfl | exact Or.inr (Or.inl rfl) | exact Or.inr (Or.inr rfl)) (hd : (x == ("__debug__" : Str)) = false := by decide)
    (hcd : (x == ("__classdict__" : Str)) = false := by decide) : SE cl X W (.Name x pos) (eVar i) := by
  refine (pe_var hN hv hd hcd).impM fun σ H Q h => ?_
  obtain ⟨G, m, env, st, rl, en, p⟩ := h
  unfold eVar at p
  split at p
  · rename_i v hv
    obtain ⟨x, hx, rx⟩ := en.2 i v hv
    exact ⟨x, hx, p x H G m (Ext.refl _ _ _) rl rx⟩
  · exact p.elim
def eC (x : D) : EE := fun _ st => .ok (.d x) st
theorem tC_of {v : V} {x : D} (r : ∀ G, Rep (rc X cl) G v x) {σ : L2.St} {H : Hp} {Q : VK} (h : tE (rc X cl) W (eC x) σ H Q) : tC v σ H Q := by
  obtain ⟨G, m, env, st, rl, en, p⟩ := h
  exact p v H G m (Ext.refl _ _ _) rl (.d (r G))
theorem se_int {i : Int} {j : Nat} : SE cl X W (.Constant (.int i) j pos) (eC (.int i)) := pe_int.impM fun _ _ _ h => tC_of (fun _ => .int i) h
theorem se_bl {b : Bool} {j : Nat} : SE cl X W (.Constant (.bool b) j pos) (eC (.bool b)) := pe_bl.impM fun _ _ _ h => tC_of (fun _ => .bl b) h
theorem se_non {j : Nat} : SE cl X W (.Constant .none j pos) (eC .none) := pe_non.impM fun _ _ _ h => tC_of (fun _ => .non) h
theorem se_str {x : Str} {j : Nat} : SE cl X W (.Constant (.str x) j pos) (eC (.str x)) := pe_str.impM fun _ _ _ h => tC_of (fun _ => .str x) h
/-- a constant of the module -/
theorem se_glob {x : Str} {v : V} {u : Value} {d : D} (r : ∀ G, Rep (rc X cl) G v d) (hg : Gl X x) (hm : X.mg x = some u) (rv : RelV v u) (hd : (x == ("__debug__" : Str)) = false := by decide) : SE cl X W (.Name x pos) (eC d) :=
  (pe_glob hg hm rv hd).impM fun _ _ _ h => tC_of r h
end

/-! ### two things and an operation -/
def eOp (f : Val → Val → Sto → Option (Val × Sto)) (a b : EE) : EE := fun env st => (a env st).bind fun x s1 => (b env s1).bind fun y s2 => R.of (f x y s2)
def rO (C : RC) (f : Val → Val → Sto → Option (Val × Sto)) : R2 := fun x y H Q => ∃ G m st a b, Rl C G m H st ∧ RepV C G m x a ∧ RepV C G m y b ∧ PostO C (RepV C) G m H Q (f a b st)
def pur2 (f : D → D → Option D) (x y : Val) (s : Sto) : Option (Val × Sto) := match x, y with
  | .d x, .d y => (f x y).map fun z => (.d z, s)
  | _, _ => none
theorem tOp_of {C : RC} {W : WX} {f : Val → Val → Sto → Option (Val × Sto)} {a b : EE} {σ : L2.St} {H : Hp} {Q : VK} (h : tE C W (eOp f a b) σ H Q) : tOp (rO C f) (tE C W a) (tE C W b) σ H Q := by
  obtain ⟨G, m, env, st, rl, en, p⟩ := h
  exact ⟨G, m, env, st, rl, en, Post.bindE p fun v s1 x H1 G1 m1 _ e1 rl1 r1 p1 => ⟨G1, m1, env, s1, rl1, en.ext e1, Post.bindE p1 fun u s2 y H2 G2 m2 _ e2 rl2 r2 p2 => ⟨G2, m2, s2, v, u, rl2, r1.ext e2, r2, p2.of⟩⟩⟩
section
variable {cl : Nat → Addr} {X : Cx} {W : WX} {pos : Pos} {a b c : Expr} {ea eb ec : EE} {f g : Val → Val → Sto → Option (Val × Sto)}
theorem se_op {op : Operator} (ho : OpR X (binaryOp op) (rO (rc X cl) f)) (ha : SE cl X W a ea) (hb : SE cl X W b eb) : SE cl X W (.BinOp a op b pos) (eOp f ea eb) := (pe_op ho ha hb).impM fun _ _ _ h => tOp_of h
theorem se_cmp {op : CmpOp} (ho : OpR X (compareOp op) (rO (rc X cl) f)) (ha : SE cl X W a ea) (hb : SE cl X W b eb) (hm : behindInMarks op b = false) : SE cl X W (.Compare a [op] [b] pos) (eOp f ea eb) := (pe_cmpR ho ha hb hm).impM fun _ _ _ h => tOp_of h
def eTst (a : EE) : ET := fun env st => (a env st).bind fun v s => match v with
  | .d (.bool b) => .ok b s
  | _ => .bad
theorem tTest_of {C : RC} {ea : EE} {σ : L2.St} {H : Hp} {Q : Bool → Hp → Prop} (h : tT C W (eTst ea) σ H Q) : tTest (tE C W ea) σ H Q := by
  obtain ⟨G, m, env, st, rl, en, p⟩ := h
  refine ⟨G, m, env, st, rl, en, Post.bindE p fun v s1 x H1 G1 m1 _ e1 rl1 r1 p1 => ?_⟩
  split at p1
  · rename_i b _
    cases r1 with
    | d r => cases r; exact ⟨b, rfl, p1 b H1 G1 m1 (Ext.refl _ _ _) rl1 rfl⟩
  · exact p1.elim
theorem st_cmp {op : CmpOp} (ho : OpR X (compareOp op) (rO (rc X cl) f)) (ha : SE cl X W a ea) (hb : SE cl X W b eb) (hm : behindInMarks op b = false) : ST cl X W (.Compare a [op] [b] pos) (eTst (eOp f ea eb)) :=
  (pt_cmpR ho ha hb hm).impM fun σ H Q h => by
    have q := tTest_of h
    exact tOp_of q
theorem st_val {e : Expr} {ee : EE} (h : SE cl X W e ee) (he : ∀ whole, isTrue e X.env whole = (do let v ← whole; standAt e.pos; holding [v] (truthy v)) := by intro _; rfl) : ST cl X W e (eTst ee) :=
  (pt_val h he).impM fun σ H Q h => tTest_of h
/-- a op b op' c -/
def eChain (f g : Val → Val → Sto → Option (Val × Sto)) (a b c : EE) : EE := fun env st => (a env st).bind fun x s1 => (b env s1).bind fun y s2 => (R.of (f x y s2)).bind fun z s3 => match z with
  | .d (.bool true) => (c env s3).bind fun w s4 => R.of (g y w s4)
  | .d (.bool false) => .ok (.d (.bool false)) s3
  | _ => .bad
theorem tChain_of {C : RC} {σ : L2.St} {H : Hp} {Q : VK} (h : tE C W (eChain f g ea eb ec) σ H Q) : tChain (rO C f) (rO C g) (tE C W ea) (tE C W eb) (tE C W ec) σ H Q := by
  obtain ⟨G, m, env, st, rl, en, p⟩ := h
  refine ⟨G, m, env, st, rl, en, Post.bindE p fun v s1 x H1 G1 m1 _ e1 rl1 r1 p1 => ⟨G1, m1, env, s1, rl1, en.ext e1, Post.bindE p1 fun u s2 y H2 G2 m2 _ e2 rl2 r2 p2 => ⟨G2, m2, s2, v, u, rl2, r1.ext e2, r2, ?_⟩⟩⟩
  refine Post.of (W := fun c d H' => W c d σ H') (Post.bindE p2 fun z s3 k H3 G3 m3 _ e3 rl3 r3 p3 => ?_)
  split at p3
  · cases r3 with
    | d r => cases r; exact ⟨true, rfl, by rw [if_pos rfl]; exact ⟨G3, m3, env, s3, rl3, ((en.ext e1).ext e2).ext e3, Post.bindE p3 fun w s4 q H4 G4 m4 _ e4 rl4 r4 p4 => ⟨G4, m4, s4, u, w, rl4, (r2.ext e3).ext e4, r4, p4.of⟩⟩⟩
  · cases r3 with
    | d r => cases r; exact ⟨false, rfl, by rw [if_neg (by decide)]; exact p3 _ H3 G3 m3 (Ext.refl _ _ _) rl3 (.d (.bl false))⟩
  · exact p3.elim
theorem se_chain {op op' : CmpOp} (ho : OpR X (compareOp op) (rO (rc X cl) f)) (ho' : OpR X (compareOp op') (rO (rc X cl) g)) (ha : SE cl X W a ea) (hb : SE cl X W b eb) (hc : SE cl X W c ec)
    (hm : lastMarks [op, op'] [b, c] = false := by with_unfolding_all rfl) : SE cl X W (.Compare a [op, op'] [b, c] pos) (eChain f g ea eb ec) := (pe_chain ho ho' ha hb hc hm).impM fun _ _ _ h => tChain_of h
theorem st_chain {op op' : CmpOp} (ho : OpR X (compareOp op) (rO (rc X cl) f)) (ho' : OpR X (compareOp op') (rO (rc X cl) g)) (ha : SE cl X W a ea) (hb : SE cl X W b eb) (hc : SE cl X W c ec)
    (hm : lastMarks [op, op'] [b, c] = false := by with_unfolding_all rfl) : ST cl X W (.Compare a [op, op'] [b, c] pos) (eTst (eChain f g ea eb ec)) := (pt_chain ho ho' ha hb hc hm).impM fun _ _ _ h => by
    have q := tTest_of h
    exact tChain_of q

/-! ### and, or, not, if -/
def eAnd (a b : EE) : EE := fun env st => (a env st).bind fun v s => match v with
  | .d (.bool true) => b env s
  | .d (.bool false) => .ok (.d (.bool false)) s
  | _ => .bad
def eOr (a b : EE) : EE := fun env st => (a env st).bind fun v s => match v with
  | .d (.bool true) => .ok (.d (.bool true)) s
  | .d (.bool false) => b env s
  | _ => .bad
def eNot (a : EE) : EE := fun env st => (a env st).bind fun v s => match v with
  | .d (.bool b) => .ok (.d (.bool (!b))) s
  | _ => .bad
def kAnd (a b : ET) : ET := fun env st => (a env st).bind fun v s => match v with
  | true => b env s
  | false => .ok false s
def kOr (a b : ET) : ET := fun env st => (a env st).bind fun v s => match v with
  | true => .ok true s
  | false => b env s
def kNot (a : ET) : ET := fun env st => (a env st).bind fun v s => .ok (!v) s
def eIf (t : ET) (a b : EE) : EE := fun env st => (t env st).bind fun v s => match v with
  | true => a env s
  | false => b env s
variable {rest : List Expr} {ta tb : ET}
theorem se_one {op : BoolOp} (h : SE cl X W a ea) : SE cl X W (.BoolOp op [a] pos) ea := pe_one h
theorem se_and (ha : SE cl X W a ea) (hb : SE cl X W (.BoolOp .And (b :: rest) pos) eb) : SE cl X W (.BoolOp .And (a :: b :: rest) pos) (eAnd ea eb) := (pe_and ha hb).impM fun σ H Q h => by
  obtain ⟨G, m, env, st, rl, en, p⟩ := h
  refine ⟨G, m, env, st, rl, en, Post.bindE p fun v s1 x H1 G1 m1 _ e1 rl1 r1 p1 => ?_⟩
  split at p1
  · cases r1 with
    | d r => cases r; exact ⟨true, rfl, by rw [if_pos rfl]; exact ⟨G1, m1, env, s1, rl1, en.ext e1, p1⟩⟩
  · cases r1 with
    | d r => cases r; exact ⟨false, rfl, by rw [if_neg (by decide)]; exact p1 _ H1 G1 m1 (Ext.refl _ _ _) rl1 (.d (.bl false))⟩
  · exact p1.elim
theorem se_or (ha : SE cl X W a ea) (hb : SE cl X W (.BoolOp .Or (b :: rest) pos) eb) : SE cl X W (.BoolOp .Or (a :: b :: rest) pos) (eOr ea eb) := (pe_or ha hb).impM fun σ H Q h => by
  obtain ⟨G, m, env, st, rl, en, p⟩ := h
  refine ⟨G, m, env, st, rl, en, Post.bindE p fun v s1 x H1 G1 m1 _ e1 rl1 r1 p1 => ?_⟩
  split at p1
  · cases r1 with
    | d r => cases r; exact ⟨true, rfl, by rw [if_pos rfl]; exact p1 _ H1 G1 m1 (Ext.refl _ _ _) rl1 (.d (.bl true))⟩
  · cases r1 with
    | d r => cases r; exact ⟨false, rfl, by rw [if_neg (by decide)]; exact ⟨G1, m1, env, s1, rl1, en.ext e1, p1⟩⟩
  · exact p1.elim
theorem se_not (ha : SE cl X W a ea) : SE cl X W (.UnaryOp .Not a pos) (eNot ea) := (pe_not ha).impM fun σ H Q h => by
  obtain ⟨G, m, env, st, rl, en, p⟩ := h
  refine ⟨G, m, env, st, rl, en, Post.bindE p fun v s1 x H1 G1 m1 _ e1 rl1 r1 p1 => ?_⟩
  split at p1
  · rename_i b _
    cases r1 with
    | d r => cases r; exact ⟨b, rfl, p1 _ H1 G1 m1 (Ext.refl _ _ _) rl1 (.d (.bl _))⟩
  · exact p1.elim
theorem sw_one_and (ha : ST cl X W a ta) : SW cl X W (.BoolOp .And [a] pos) ta := pw_and1 ha
theorem sw_one_or (ha : ST cl X W a ta) : SW cl X W (.BoolOp .Or [a] pos) ta := pw_or1 ha
theorem sw_and (ha : ST cl X W a ta) (hb : SW cl X W (.BoolOp .And (b :: rest) pos) tb) : SW cl X W (.BoolOp .And (a :: b :: rest) pos) (kAnd ta tb) := (pw_and ha hb).impM fun σ H Q h => by
  obtain ⟨G, m, env, st, rl, en, p⟩ := h
  refine ⟨G, m, env, st, rl, en, Post.bindE p fun v s1 x H1 G1 m1 _ e1 rl1 r1 p1 => ?_⟩
  cases (show x = v from r1)
  cases v with
  | true => rw [if_pos rfl]; exact ⟨G1, m1, env, s1, rl1, en.ext e1, p1⟩
  | false => rw [if_neg (by decide)]; exact p1 _ H1 G1 m1 (Ext.refl _ _ _) rl1 rfl
theorem sw_or (ha : ST cl X W a ta) (hb : SW cl X W (.BoolOp .Or (b :: rest) pos) tb) : SW cl X W (.BoolOp .Or (a :: b :: rest) pos) (kOr ta tb) := (pw_or ha hb).impM fun σ H Q h => by
  obtain ⟨G, m, env, st, rl, en, p⟩ := h
  refine ⟨G, m, env, st, rl, en, Post.bindE p fun v s1 x H1 G1 m1 _ e1 rl1 r1 p1 => ?_⟩
  cases (show x = v from r1)
  cases v with
  | true => rw [if_pos rfl]; exact p1 _ H1 G1 m1 (Ext.refl _ _ _) rl1 rfl
  | false => rw [if_neg (by decide)]; exact ⟨G1, m1, env, s1, rl1, en.ext e1, p1⟩
theorem st_bool {e : Expr} (h : SW cl X W e ta) : ST cl X W e ta := h.pt
theorem st_not (ha : ST cl X W a ta) : ST cl X W (.UnaryOp .Not a pos) (kNot ta) := (pt_not ha).impM fun σ H Q h => by
  obtain ⟨G, m, env, st, rl, en, p⟩ := h
  refine ⟨G, m, env, st, rl, en, Post.bindE p fun v s1 x H1 G1 m1 _ e1 rl1 r1 p1 => ?_⟩
  cases (show x = v from r1)
  exact p1 _ H1 G1 m1 (Ext.refl _ _ _) rl1 rfl
theorem se_if (hc : ST cl X W c ta) (ha : SE cl X W a ea) (hb : SE cl X W b eb) : SE cl X W (.IfExp c a b pos) (eIf ta ea eb) := (pe_ifExp hc ha hb).impM fun σ H Q h => by
  obtain ⟨G, m, env, st, rl, en, p⟩ := h
  refine ⟨G, m, env, st, rl, en, Post.bindE p fun v s1 x H1 G1 m1 _ e1 rl1 r1 p1 => ?_⟩
  cases (show x = v from r1)
  cases v with
  | true => rw [if_pos rfl]; exact ⟨G1, m1, env, s1, rl1, en.ext e1, p1⟩
  | false => rw [if_neg (by decide)]; exact ⟨G1, m1, env, s1, rl1, en.ext e1, p1⟩

/-! ### several -/
def aNil : EA := fun _ st => .ok [] st
def aCons (a : EE) (r : EA) : EA := fun env st => (a env st).bind fun x s1 => (r env s1).bind fun xs s2 => .ok (x :: xs) s2
variable {es : List Expr} {er : EA}
theorem sa_nil : SA cl X W [] aNil := pa_nil.impM fun σ H Q h => by
  obtain ⟨G, m, env, st, rl, en, p⟩ := h
  exact p [] H G m (Ext.refl _ _ _) rl .nil
theorem sa_cons (ha : SE cl X W a ea) (hr : SA cl X W es er) (hs : starEach (a :: es) X.env = (false, eval a X.env) :: starEach es X.env := by rfl) : SA cl X W (a :: es) (aCons ea er) := (pa_cons ha hr hs).impM fun σ H Q h => by
  obtain ⟨G, m, env, st, rl, en, p⟩ := h
  refine ⟨G, m, env, st, rl, en, Post.bindE p fun v s1 x H1 G1 m1 _ e1 rl1 r1 p1 => ⟨G1, m1, env, s1, rl1, en.ext e1, Post.bindE p1 fun u s2 y H2 G2 m2 _ e2 rl2 r2 p2 => ?_⟩⟩
  exact p2 _ H2 G2 m2 (Ext.refl _ _ _) rl2 (.cons (r1.ext e2) r2)
end
end Mi
end

section
set_option maxRecDepth 100000
set_option autoImplicit false
namespace Mi
open PySem PySem.Spec L2

/-! ### helpers -/
section
variable {C : RC} {G : Hp} {m : List Addr} {H : Hp} {st : Sto} {Q : VK} {p : Addr} {vs : List V} {ds : List D}
theorem new_tup (rl : Rl C G m H st) (hp : H p = none) (ra : RepAll C G vs ds) (h : ∀ x H' G' m', Ext G m H G' m' H' → Rl C G' m' H' st → RepV C G' m' x (.d (.tuple ds)) → Q x H') : Q (.ref p) (upd H p (.tup vs)) := by
  obtain ⟨r, e⟩ := rl.laid hp (.tup vs)
  exact h _ _ _ _ e r (.d (.tup (SqT.of upd_same) (ra.sub e.sub)))
theorem new_lst (rl : Rl C G m H st) (hp : H p = none) (ra : RepAll C G vs ds) (h : ∀ x H' G' m', Ext G m H G' m' H' → Rl C G' m' H' st → RepV C G' m' x (.d (.list ds)) → Q x H') : Q (.ref p) (upd H p (.lst vs)) := by
  obtain ⟨r, e⟩ := rl.laid hp (.lst vs)
  exact h _ _ _ _ e r (.d (.lst upd_same (ra.sub e.sub)))
/-- a new list that may be changed -/
theorem new_ref (rl : Rl C G m H st) (hp : H p = none) (ra : RepAll C G vs ds) (h : ∀ x H' G' m', Ext G m H G' m' H' → Rl C G' m' H' (st ++ [.lst ds]) → RepV C G' m' x (.r st.length) → Q x H') : Q (.ref p) (upd H p (.lst vs)) := by
  obtain ⟨r, e⟩ := rl.alloc hp (.lst vs) (.lst ds) ⟨vs, upd_same, ra⟩
  refine h _ _ _ _ e r (.r ?_)
  rw [← rl.len, List.getElem?_append_right (Nat.le_refl _)]
  simp
/-- the items of a list, of a tuple -/
def lsOf (v : Val) (st : Sto) : Option (List D) := match v with
  | .d (.list xs) => some xs
  | .r i => match st[i]? with
    | some (.lst xs) => some xs
    | _ => none
  | _ => none
theorem ls_of (rl : Rl C G m H st) {v : V} {a : Val} {xs : List D} (r : RepV C G m v a) (h : lsOf a st = some xs) : ∃ p vs, v = .ref p ∧ H p = some (.lst vs) ∧ RepAll C G vs xs := by
  cases r with
  | d r =>
    cases r with
    | lst g ra => cases h; exact ⟨_, _, rfl, rl.sub _ _ g, ra⟩
    | non => cases h
    | bl => cases h
    | int => cases h
    | str => cases h
    | tup => cases h
  | r q =>
    simp only [lsOf] at h
    split at h
    · rename_i ys e
      cases h
      obtain ⟨vs, hv, ra⟩ := rl.obj _ _ _ e q
      exact ⟨_, vs, rfl, hv, ra⟩
    · cases h
  | s q => cases h
/-- of a list or a tuple -/
def sqOf (v : Val) (st : Sto) : Option (List D) := match v with
  | .d (.tuple xs) => some xs
  | v => lsOf v st
theorem sq_of (rl : Rl C G m H st) {v : V} {a : Val} {xs : List D} (r : RepV C G m v a) (h : sqOf a st = some xs) : ∃ p vs, v = .ref p ∧ (H p = some (.lst vs) ∨ SqT C.K H p vs) ∧ RepAll C G vs xs := by
  unfold sqOf at h
  split at h
  · cases h
    cases r with
    | d r =>
      cases r with
      | tup g ra => exact ⟨_, _, rfl, .inr (SqT.sub rl.sub g), ra⟩
  · obtain ⟨p, vs, e, h1, h2⟩ := ls_of rl r h
    exact ⟨p, vs, e, .inl h1, h2⟩
theorem RepAll.ints : ∀ {ns : List Int} {vs : List V}, RepAll C G vs (ns.map PyData.int) → vs = ns.map V.int
  | [], _, h => by cases h; rfl
  | _ :: _, _, h => by
    cases h with
    | cons q r => cases q; rw [List.map_cons, RepAll.ints r]
theorem RepAll.bools : ∀ {ns : List Bool} {vs : List V}, RepAll C G vs (ns.map PyData.bool) → vs = ns.map V.bl
  | [], _, h => by cases h; rfl
  | _ :: _, _, h => by
    cases h with
    | cons q r => cases q; rw [List.map_cons, RepAll.bools r]
theorem RepAll.of_ints : ∀ (ns : List Int), RepAll C G (ns.map V.int) (ns.map PyData.int)
  | [] => .nil
  | _ :: r => .cons (.int _) (RepAll.of_ints r)
end
def intOf : D → Option Int
  | .int i => some i
  | _ => none
def intsOf : List D → Option (List Int)
  | [] => some []
  | .int i :: r => (intsOf r).map (i :: ·)
  | _ :: _ => none
theorem intsOf_eq : ∀ {xs : List D} {ns : List Int}, intsOf xs = some ns → xs = ns.map PyData.int
  | [], _, h => by cases h; rfl
  | .int i :: r, ns, h => by
    simp only [intsOf, Option.map_eq_some_iff] at h
    obtain ⟨l, h1, rfl⟩ := h
    rw [intsOf_eq h1]; rfl
  | .none :: _, _, h => by cases h
  | .bool _ :: _, _, h => by cases h
  | .str _ :: _, _, h => by cases h
  | .list _ :: _, _, h => by cases h
  | .tuple _ :: _, _, h => by cases h
  | .dict _ :: _, _, h => by cases h
@[simp] theorem intsOf_map (ns : List Int) : intsOf (ns.map PyData.int) = some ns := by
  induction ns with
  | nil => rfl
  | cons a r ih => simp [intsOf, ih]
def boolsOf : List D → Option (List Bool)
  | [] => some []
  | .bool i :: r => (boolsOf r).map (i :: ·)
  | _ :: _ => none
theorem boolsOf_eq : ∀ {xs : List D} {ns : List Bool}, boolsOf xs = some ns → xs = ns.map PyData.bool
  | [], _, h => by cases h; rfl
  | .bool i :: r, ns, h => by
    simp only [boolsOf, Option.map_eq_some_iff] at h
    obtain ⟨l, h1, rfl⟩ := h
    rw [boolsOf_eq h1]; rfl
  | .none :: _, _, h => by cases h
  | .int _ :: _, _, h => by cases h
  | .str _ :: _, _, h => by cases h
  | .list _ :: _, _, h => by cases h
  | .tuple _ :: _, _, h => by cases h
  | .dict _ :: _, _, h => by cases h
@[simp] theorem boolsOf_map (ns : List Bool) : boolsOf (ns.map PyData.bool) = some ns := by
  induction ns with
  | nil => rfl
  | cons a r ih => simp [boolsOf, ih]

/-! ### whole numbers -/
section
variable {cl : Nat → Addr} {X : Cx}
def dI (f : Int → Int → Option D) (x y : D) : Option D := match x, y with
  | .int i, .int j => f i j
  | _, _ => none
/-- an operation of ints by its rule -/
theorem opI_of {g : Value → Value → Sem Value} {r : R2} {f : Int → Int → Option D} (h : OpR X g r) (k : ∀ i j d H Q, f i j = some d → (∀ v, (∀ G, Rep (rc X cl) G v d) → Q v H) → r (.int i) (.int j) H Q) : OpR X g (rO (rc X cl) (pur2 (dI f))) := by
  refine opR_imp h fun x y H Q q => ?_
  obtain ⟨G, m, st, a, b, rl, ra, rb, p⟩ := q
  cases ra with
  | d ra =>
    cases rb with
    | d rb =>
      cases ra with
      | int i =>
        cases rb with
        | int j =>
          cases e : f i j with
          | none => simp [pur2, dI, e] at p; exact p.elim
          | some d =>
            refine k i j d H Q e fun v hv => ?_
            have p2 : PostO (rc X cl) (RepV (rc X cl)) G m H Q (some (.d d, st)) := by simpa [pur2, dI, e] using p
            exact p2 v H G m (Ext.refl _ _ _) rl (.d (hv G))
        | _ => exact p.elim
      | _ => cases rb <;> exact p.elim
    | _ => cases ra <;> exact p.elim
  | _ => cases rb <;> exact p.elim
def iAdd (i j : Int) : Option D := some (.int (i + j))
def iSub (i j : Int) : Option D := some (.int (i - j))
def iMul (i j : Int) : Option D := if (-(2 ^ 64) < i ∧ i < 2 ^ 64) ∨ (-(2 ^ 64) < j ∧ j < 2 ^ 64) then some (.int (i * j)) else none
def iDiv (i j : Int) : Option D := if 0 < j ∧ j < 1073741824 then some (.int (i / j)) else none
def iMod (i j : Int) : Option D := if 0 < j then some (.int (i % j)) else none
def iPow (i j : Int) : Option D := if 0 ≤ j ∧ j ≤ 1000000 ∧ i.natAbs < 2 ^ 64 then some (.int (i ^ j.toNat)) else none
def iShl (i j : Int) : Option D := if 0 ≤ j ∧ j ≤ 1000000 ∧ i.natAbs < 2 ^ 64 then some (.int (i * 2 ^ j.toNat)) else none
def iShr (i j : Int) : Option D := if 0 ≤ j then some (.int (i / 2 ^ j.toNat)) else none
def iAnd (i j : Int) : Option D := some (.int (Builtin.bitAnd i j))
def iLt (i j : Int) : Option D := some (.bool (decide (i < j)))
def iLe (i j : Int) : Option D := some (.bool (decide (i ≤ j)))
def iGt (i j : Int) : Option D := some (.bool (decide (j < i)))
def iGe (i j : Int) : Option D := some (.bool (decide (j ≤ i)))
theorem o_sub : OpR X (binaryOp .Sub) (rO (rc X cl) (pur2 (dI iSub))) := opI_of op_sub fun i j d H Q e k => by cases e; exact ⟨i, j, rfl, rfl, k _ fun _ => .int _⟩
theorem o_div : OpR X (binaryOp .FloorDiv) (rO (rc X cl) (pur2 (dI iDiv))) := opI_of op_fdiv fun i j d H Q e k => by
  unfold iDiv at e; split at e
  · rename_i c; cases e; exact ⟨i, j, rfl, rfl, c, k _ fun _ => .int _⟩
  · cases e
theorem o_mod : OpR X (binaryOp .Mod) (rO (rc X cl) (pur2 (dI iMod))) := opI_of op_mod fun i j d H Q e k => by
  unfold iMod at e; split at e
  · rename_i c; cases e; exact ⟨i, j, rfl, rfl, c, k _ fun _ => .int _⟩
  · cases e
theorem o_pow : OpR X (binaryOp .Pow) (rO (rc X cl) (pur2 (dI iPow))) := opI_of op_pow fun i j d H Q e k => by
  unfold iPow at e; split at e
  · rename_i c; cases e; exact ⟨i, j, rfl, rfl, c, k _ fun _ => .int _⟩
  · cases e
theorem o_shl : OpR X (binaryOp .LShift) (rO (rc X cl) (pur2 (dI iShl))) := opI_of op_shl fun i j d H Q e k => by
  unfold iShl at e; split at e
  · rename_i c; cases e; exact ⟨i, j, rfl, rfl, c, k _ fun _ => .int _⟩
  · cases e
theorem o_shr : OpR X (binaryOp .RShift) (rO (rc X cl) (pur2 (dI iShr))) := opI_of op_shr fun i j d H Q e k => by
  unfold iShr at e; split at e
  · rename_i c; cases e; exact ⟨i, j, rfl, rfl, c, k _ fun _ => .int _⟩
  · cases e
theorem o_band : OpR X (binaryOp .BitAnd) (rO (rc X cl) (pur2 (dI iAnd))) := opI_of op_and fun i j d H Q e k => by cases e; exact ⟨i, j, rfl, rfl, k _ fun _ => .int _⟩
theorem o_lt : OpR X (compareOp .Lt) (rO (rc X cl) (pur2 (dI iLt))) := opI_of op_lt fun i j d H Q e k => by cases e; exact ⟨i, j, rfl, rfl, k _ fun _ => .bl _⟩
theorem o_le : OpR X (compareOp .LtE) (rO (rc X cl) (pur2 (dI iLe))) := opI_of op_le fun i j d H Q e k => by cases e; exact ⟨i, j, rfl, rfl, k _ fun _ => .bl _⟩
theorem o_gt : OpR X (compareOp .Gt) (rO (rc X cl) (pur2 (dI iGt))) := opI_of op_gt fun i j d H Q e k => by cases e; exact ⟨i, j, rfl, rfl, k _ fun _ => .bl _⟩
theorem o_ge : OpR X (compareOp .GtE) (rO (rc X cl) (pur2 (dI iGe))) := opI_of op_ge fun i j d H Q e k => by cases e; exact ⟨i, j, rfl, rfl, k _ fun _ => .bl _⟩
end
end Mi
end

section
set_option maxRecDepth 100000
set_option autoImplicit false
namespace Mi
open PySem PySem.Spec L2

/-! ### == and in, of data -/
def datOf (v : Val) (st : Sto) : Option D := match v with
  | .d x => some x
  | .r i => match st[i]? with
    | some (.lst xs) => some (.list xs)
    | _ => none
  | .s ns => some (.list (ns.map PyData.int))
section
variable {C : RC} {G : Hp} {m : List Addr} {H : Hp} {st : Sto}
theorem dpAll_ints {K : PySem.W.Frag} : ∀ ns : List Int, DpAll K H (ns.map V.int) (ns.map PyData.int)
  | [] => .nil
  | _ :: r => .cons (.int _) (dpAll_ints r)
theorem dat_of (rl : Rl C G m H st) {v : V} {a : Val} {x : D} (r : RepV C G m v a) (h : datOf a st = some x) : Dp C.K H v x := by
  cases r with
  | d r => cases h; exact r.dp rl.sub
  | r q =>
    simp only [datOf] at h
    split at h
    · rename_i ys e
      cases h
      obtain ⟨vs, hv, ra⟩ := rl.obj _ _ _ e q
      exact .lst (SqL.of hv) (ra.dp rl.sub)
    · cases h
  | s q => cases h; exact .lst (SqL.sub rl.sub q) (dpAll_ints _)
end
def fits (x y : D) : Bool := x.plain && y.plain && decide (min x.depth y.depth ≤ 150)
def vEq (a b : Val) (st : Sto) : Option (Val × Sto) := match datOf a st, datOf b st with
  | some x, some y => if fits x y = true then some (.d (.bool (PyData.eqv x y)), st) else none
  | _, _ => none
def vNe (a b : Val) (st : Sto) : Option (Val × Sto) := match datOf a st, datOf b st with
  | some x, some y => if fits x y = true then some (.d (.bool (!PyData.eqv x y)), st) else none
  | _, _ => none
def fitsIn (xs : List D) (d : D) : Bool := PyData.plainAll xs && d.plain && decide (min (PyData.depthAll xs) d.depth ≤ 150)
def vIn (a b : Val) (st : Sto) : Option (Val × Sto) := match datOf a st, sqOf b st with
  | some d, some xs => if fitsIn xs d = true then some (.d (.bool (xs.any fun y => PyData.eqv y d)), st) else none
  | _, _ => none
def vNin (a b : Val) (st : Sto) : Option (Val × Sto) := match datOf a st, sqOf b st with
  | some d, some xs => if fitsIn xs d = true then some (.d (.bool (!xs.any fun y => PyData.eqv y d)), st) else none
  | _, _ => none
theorem fits_is {x y : D} (h : fits x y = true) : x.plain = true ∧ y.plain = true ∧ min x.depth y.depth ≤ 150 := by
  unfold fits at h
  simp only [Bool.and_eq_true, decide_eq_true_eq] at h
  exact ⟨h.1.1, h.1.2, h.2⟩
theorem fitsIn_is {xs : List D} {y : D} (h : fitsIn xs y = true) : PyData.plainAll xs = true ∧ y.plain = true ∧ min (PyData.depthAll xs) y.depth ≤ 150 := by
  unfold fitsIn at h
  simp only [Bool.and_eq_true, decide_eq_true_eq] at h
  exact ⟨h.1.1, h.1.2, h.2⟩
section
variable {cl : Nat → Addr} {X : Cx}
theorem o_eq (hu : X.A.units + 200 < cLine) : OpR X (compareOp .Eq) (rO (rc X cl) vEq) := by
  intro pins s σ H x y v u Q I rx ry h
  obtain ⟨G, m, st, a, b, rl, ra, rb, p⟩ := h
  unfold vEq at p
  split at p
  · rename_i d e hd he
    split at p
    · rename_i hf
      obtain ⟨f1, f2, f3⟩ := fits_is hf
      obtain ⟨as, r1⟩ := Dp.reads I d x v (dat_of rl ra hd) rx
      obtain ⟨bs, r2⟩ := Dp.reads I e y u (dat_of rl rb he) ry
      exact SeqAt.eq_plain r1 r2 f1 f2 (by omega) ⟨.bl _, H, I, rfl, p _ H G m (Ext.refl _ _ _) rl (.d (.bl _))⟩
    · exact p.elim
  · exact p.elim
theorem o_ne (hu : X.A.units + 200 < cLine) : OpR X (compareOp .NotEq) (rO (rc X cl) vNe) := by
  intro pins s σ H x y v u Q I rx ry h
  obtain ⟨G, m, st, a, b, rl, ra, rb, p⟩ := h
  unfold vNe at p
  split at p
  · rename_i d e hd he
    split at p
    · rename_i hf
      obtain ⟨f1, f2, f3⟩ := fits_is hf
      obtain ⟨as, r1⟩ := Dp.reads I d x v (dat_of rl ra hd) rx
      obtain ⟨bs, r2⟩ := Dp.reads I e y u (dat_of rl rb he) ry
      exact SeqAt.ne_plain r1 r2 f1 f2 (by omega) ⟨.bl _, H, I, rfl, p _ H G m (Ext.refl _ _ _) rl (.d (.bl _))⟩
    · exact p.elim
  · exact p.elim
/-- a list or a tuple, read as data -/
theorem sq_reads {pins : List (Addr × Obj)} {s : Shared} {σ : L2.St} {H G : Hp} {m : List Addr} {st : Sto} {v : V} {u : Value} {b : Val} {xs : List D} (I : Inv X pins σ H s) (rl : Rl (rc X cl) G m H st) (r : RepV (rc X cl) G m v b) (ru : RelV v u) (h : sqOf b st = some xs) :
    (∃ as, Reads s.heap u (.list xs) as) ∨ ∃ as, Reads s.heap u (.tuple xs) as := by
  obtain ⟨p, vs, rfl, k, ra⟩ := sq_of rl r h
  rcases k with k | k
  · exact .inl (Dp.reads I (.list xs) _ u (.lst (SqL.of k) (ra.dp rl.sub)) ru)
  · exact .inr (Dp.reads I (.tuple xs) _ u (.tup k (ra.dp rl.sub)) ru)
theorem o_in (hu : X.A.units + 200 < cLine) : OpR X (compareOp .In) (rO (rc X cl) vIn) := by
  intro pins s σ H x y v u Q I rx ry h
  obtain ⟨G, m, st, a, b, rl, ra, rb, p⟩ := h
  unfold vIn at p
  split at p
  · rename_i d xs hd he
    split at p
    · rename_i hf
      obtain ⟨f1, f2, f3⟩ := fitsIn_is hf
      obtain ⟨as, r1⟩ := Dp.reads I d x v (dat_of rl ra hd) rx
      rcases sq_reads I rl rb ry he with ⟨bs, r2⟩ | ⟨bs, r2⟩
      · exact SeqAt.in_list_data r2 r1 f1 f2 (by omega) ⟨.bl _, H, I, rfl, p _ H G m (Ext.refl _ _ _) rl (.d (.bl _))⟩
      · exact SeqAt.in_tuple_data r2 r1 f1 f2 (by omega) ⟨.bl _, H, I, rfl, p _ H G m (Ext.refl _ _ _) rl (.d (.bl _))⟩
    · exact p.elim
  · exact p.elim
theorem o_nin (hu : X.A.units + 200 < cLine) : OpR X (compareOp .NotIn) (rO (rc X cl) vNin) := by
  intro pins s σ H x y v u Q I rx ry h
  obtain ⟨G, m, st, a, b, rl, ra, rb, p⟩ := h
  unfold vNin at p
  split at p
  · rename_i d xs hd he
    split at p
    · rename_i hf
      obtain ⟨f1, f2, f3⟩ := fitsIn_is hf
      obtain ⟨as, r1⟩ := Dp.reads I d x v (dat_of rl ra hd) rx
      rcases sq_reads I rl rb ry he with ⟨bs, r2⟩ | ⟨bs, r2⟩
      · exact SeqAt.notIn_list_data r2 r1 f1 f2 (by omega) ⟨.bl _, H, I, rfl, p _ H G m (Ext.refl _ _ _) rl (.d (.bl _))⟩
      · exact SeqAt.notIn_tuple_data r2 r1 f1 f2 (by omega) ⟨.bl _, H, I, rfl, p _ H G m (Ext.refl _ _ _) rl (.d (.bl _))⟩
    · exact p.elim
  · exact p.elim
/-! ### is -/
def isNon : Val → Bool
  | .d .none => true
  | _ => false
def vIsN (a b : Val) (st : Sto) : Option (Val × Sto) := match b with
  | .d .none => some (.d (.bool (isNon a)), st)
  | .d (.bool k) => (match a with
    | .d (.bool j) => some (.d (.bool (decide (j = k))), st)
    | _ => none)
  | _ => none
def vNotN (a b : Val) (st : Sto) : Option (Val × Sto) := match b with
  | .d .none => some (.d (.bool (!isNon a)), st)
  | .d (.bool k) => (match a with
    | .d (.bool j) => some (.d (.bool (!decide (j = k))), st)
    | _ => none)
  | _ => none
theorem isNon_eq {C : RC} {G : Hp} {m : List Addr} {v : V} {a : Val} (r : RepV C G m v a) : decide (v = .non) = isNon a := by
  cases r with
  | d r => cases r <;> simp [isNon]
  | r q => simp [isNon]
  | s q => simp [isNon]
theorem o_is : OpR X (compareOp .Is) (rO (rc X cl) vIsN) := by
  refine opR_imp (op_isN.or op_isBl) fun x y H Q h => ?_
  obtain ⟨G, m, st, a, b, rl, ra, rb, p⟩ := h
  unfold vIsN at p
  split at p
  · cases rb with
    | d rb => cases rb; exact .inl ⟨rfl, by rw [isNon_eq ra]; exact p _ H G m (Ext.refl _ _ _) rl (.d (.bl _))⟩
  · split at p
    · cases rb with
      | d rb =>
        cases rb
        cases ra with
        | d ra => cases ra; exact .inr ⟨_, _, rfl, rfl, p _ H G m (Ext.refl _ _ _) rl (.d (.bl _))⟩
    · exact p.elim
  · exact p.elim
theorem o_isnot : OpR X (compareOp .IsNot) (rO (rc X cl) vNotN) := by
  refine opR_imp (op_notN.or op_notBl) fun x y H Q h => ?_
  obtain ⟨G, m, st, a, b, rl, ra, rb, p⟩ := h
  unfold vNotN at p
  split at p
  · cases rb with
    | d rb => cases rb; exact .inl ⟨rfl, by rw [isNon_eq ra]; exact p _ H G m (Ext.refl _ _ _) rl (.d (.bl _))⟩
  · split at p
    · cases rb with
      | d rb =>
        cases rb
        cases ra with
        | d ra => cases ra; exact .inr ⟨_, _, rfl, rfl, p _ H G m (Ext.refl _ _ _) rl (.d (.bl _))⟩
    · exact p.elim
  · exact p.elim

/-! ### + and * -/
def small (n : Nat) : Bool := decide (n ≤ 1000000)
theorem small_is {n : Nat} (h : small n = true) : n ≤ sizeLine := by
  have h := of_decide_eq_true h
  rw [sizeLine_eq]; omega
def vAdd (a b : Val) (st : Sto) : Option (Val × Sto) := match a, b with
  | .d (.int i), .d (.int j) => some (.d (.int (i + j)), st)
  | .d (.str x), .d (.str y) => if small (x.length + y.length) = true then some (.d (.str (x ++ y)), st) else none
  | .d (.tuple xs), .d (.tuple ys) => if small (xs.length + ys.length) = true then some (.d (.tuple (xs ++ ys)), st) else none
  | a, b => match lsOf a st, lsOf b st with
    | some xs, some ys => if small (xs.length + ys.length) = true then some (.d (.list (xs ++ ys)), st) else none
    | _, _ => none
theorem o_add : OpR X (binaryOp .Add) (rO (rc X cl) vAdd) := by
  refine opR_imp (((op_add.or op_add_str).or op_catA).or op_cat) fun x y H Q h => ?_
  obtain ⟨G, m, st, a, b, rl, ra, rb, p⟩ := h
  unfold vAdd at p
  split at p
  · cases ra with
    | d ra =>
      cases ra
      cases rb with
      | d rb => cases rb; exact .inl (.inl (.inl ⟨_, _, rfl, rfl, p _ H G m (Ext.refl _ _ _) rl (.d (.int _))⟩))
  · split at p
    · rename_i hs
      cases ra with
      | d ra =>
        cases ra
        cases rb with
        | d rb => cases rb; exact .inl (.inl (.inr ⟨_, _, rfl, rfl, small_is hs, p _ H G m (Ext.refl _ _ _) rl (.d (.str _))⟩))
    · exact p.elim
  · rename_i xs ys
    split at p
    · rename_i hs
      cases ra with
      | d ra =>
        cases rb with
        | d rb =>
          cases ra with
          | tup qa sa =>
            cases rb with
            | tup qb sb =>
              refine .inl (.inr ⟨_, _, _, _, rfl, rfl, SqT.sub rl.sub qa, SqT.sub rl.sub qb, by rw [sa.length, sb.length]; exact small_is hs, fun e => ?_, fun e1 e2 => ?_, fun e1 e2 q hq => ?_⟩)
              · have z : xs = [] := List.eq_nil_of_length_eq_zero (by rw [← sa.length, e]; rfl)
                subst z
                exact p _ H G m (Ext.refl _ _ _) rl (.d (.tup qb sb))
              · have z : ys = [] := List.eq_nil_of_length_eq_zero (by rw [← sb.length, e2]; rfl)
                subst z
                refine p _ H G m (Ext.refl _ _ _) rl (.d ?_)
                rw [List.append_nil]; exact .tup qa sa
              · exact new_tup rl hq (sa.append sb) p
    · exact p.elim
  · split at p
    · rename_i xs ys hx hy
      split at p
      · rename_i hs
        obtain ⟨pa, va, rfl, ha, sa⟩ := ls_of rl ra hx
        obtain ⟨pb, vb, rfl, hb, sb⟩ := ls_of rl rb hy
        exact .inr ⟨pa, pb, va, vb, rfl, rfl, ha, hb, by rw [sa.length, sb.length]; exact small_is hs, fun q hq => new_lst rl hq (sa.append sb) p⟩
      · exact p.elim
    · exact p.elim
end
end Mi
end

section
set_option maxRecDepth 100000
set_option autoImplicit false
namespace L2
open PySem PySem.Spec PyProof.Rows
theorem tuple_mul1 (l : Addr) (items : Array Value) (n : Nat) (dd : Option Addr) (sl : Array (Option Value)) (u : Tok) :
    Meets (Builtin.«tuple.__mul__» ⟨[.ref l, .int 1 u], []⟩) (fun _ R s => s.heap.get? l = some { cls := .type "tuple", dict := dd, data := .seq items n, slots := sl } ∧ R (.ok (.ret (Value.ref l))) s) :=
  .of_wp fun prog w A R s h => by
    obtain ⟨hp, g, d, tk, os⟩ := s
    obtain ⟨hl, h⟩ := h
    have f1 := AutoSeq1.idx_int
    wp_walk using wpAny_loadPart' hl
    repeat (first
      | (refine wpAny_ite_false (decide_eq_false (by decide)) ?_; wp_walk using wpAny_loadPart' hl)
      | (refine wpAny_ite_true (decide_eq_true (by simp)) ?_; wp_walk using wpAny_loadPart' hl))
    exact ⟨_, rfl, h⟩
theorem op_rep1 {X : Cx} : OpR X (binaryOp .Mult) (fun x y H Q => ∃ l xs, x = .ref l ∧ y = .int 1 ∧ SqT X.K H l xs ∧ Q (.ref l) H) := by
  intro pins s σ H x y v u Q I rx ry h
  obtain ⟨l, xs, rfl, rfl, hT, q⟩ := h
  cases rx
  obtain ⟨t, rfl⟩ := ry
  obtain ⟨its, r, ⟨⟨cls, dd, data, sl⟩, ho, hc, n, hd⟩, hs⟩ := I.tuple hT
  simp only at hc hd
  subst hc hd
  exact wpAny_binaryOp_repeat_ref (T := "tuple") (U := "int") (by decide) ⟨_, ho, rfl⟩ (fun s' => typeIs_int s' 1 t) noFill_tuple_mul F.fills_int_mul F.slot_int_rmul repeat_tuple F.slot_int_index.lookup
    (call_meets F.slot_int_rmul (typeIs_int s 1 t) F.entry_int_rmul (F.args_int_rmul_2 _ _) (int_rmul_tuple 1 t l its.toArray n dd sl)
      ⟨ho, rfl, ⟨_, ho, rfl⟩, call_meets F.slot_tuple_mul ⟨_, ho, rfl⟩ F.entry_tuple_mul (F.args_tuple_mul_2 _ _) (tuple_mul1 l its.toArray n dd sl t) ⟨ho, ⟨.ref l, H, I, rfl, q⟩⟩⟩)
end L2
namespace Mi
open PySem PySem.Spec L2
def cut {α : Type} (xs : List α) (lo hi : Option Int) : List α := (xs.drop (HT.sIx xs.length 0 lo)).take (HT.sIx xs.length xs.length hi - HT.sIx xs.length 0 lo)
section
variable {C : RC} {G : Hp} {vs : List V} {ds : List D}
theorem RepAll.rep (h : RepAll C G vs ds) : ∀ n : Nat, RepAll C G (List.replicate n vs).flatten (List.replicate n ds).flatten
  | 0 => .nil
  | n + 1 => by
    rw [List.replicate_succ, List.replicate_succ, List.flatten_cons, List.flatten_cons]
    exact h.append (RepAll.rep h n)
theorem atI_rep (h : RepAll C G vs ds) {i : Int} {d : D} (e : atI ds i = some d) : ∃ v, atI vs i = some v ∧ Rep C G v d := by
  unfold atI at e ⊢
  rw [h.length]
  cases q : ixN ds.length i with
  | none => rw [q] at e; cases e
  | some j =>
    rw [q] at e
    exact h.get e
theorem cutV_rep (h : RepAll C G vs ds) (lo hi : Option Int) : RepAll C G (cutV vs lo hi) (cut ds lo hi) := by
  unfold cutV cut
  rw [h.length]
  exact (h.drop _).take _
end
def vMul (a b : Val) (st : Sto) : Option (Val × Sto) := match a, b with
  | .d (.int i), .d (.int j) => (iMul i j).map fun z => (.d z, st)
  | .d (.tuple xs), .d (.int k) => if k = 1 then some (.d (.tuple xs), st) else if xs ≠ [] ∧ 2 ≤ k ∧ k ≤ 1000 ∧ xs.length ≤ 1000 then some (.d (.tuple (List.replicate k.toNat xs).flatten), st) else none
  | a, .d (.int k) => match lsOf a st with
    | some xs => if 0 ≤ k ∧ k ≤ 1000 ∧ xs.length ≤ 1000 then some (.d (.list (List.replicate k.toNat xs).flatten), st) else none
    | none => none
  | _, _ => none
section
variable {cl : Nat → Addr} {X : Cx} {W : WX} {pos : Pos}
theorem o_mul : OpR X (binaryOp .Mult) (rO (rc X cl) vMul) := by
  refine opR_imp (((op_mul.or op_repT).or op_rep1).or op_rep) fun x y H Q h => ?_
  obtain ⟨G, m, st, a, b, rl, ra, rb, p⟩ := h
  unfold vMul at p
  split at p
  · rename_i i j
    cases ra with
    | d ra =>
      cases ra
      cases rb with
      | d rb =>
        cases rb
        unfold iMul at p
        split at p
        · rename_i c
          exact .inl (.inl (.inl ⟨_, _, rfl, rfl, c, p _ H G m (Ext.refl _ _ _) rl (.d (.int _))⟩))
        · exact p.elim
  · rename_i xs k
    cases rb with
    | d rb =>
      cases rb
      cases ra with
      | d ra =>
        cases ra with
        | tup qa sa =>
          split at p
          · rename_i hk
            subst hk
            exact .inl (.inr ⟨_, _, rfl, rfl, SqT.sub rl.sub qa, p _ H G m (Ext.refl _ _ _) rl (.d (.tup qa sa))⟩)
          · split at p
            · rename_i c
              obtain ⟨c1, c2, c3, c4⟩ := c
              refine .inl (.inl (.inr ⟨_, k, _, rfl, rfl, SqT.sub rl.sub qa, fun e => c1 (List.eq_nil_of_length_eq_zero (by rw [← sa.length, e]; rfl)), c2, c3, by rw [sa.length]; exact c4, fun q hq => new_tup rl hq (sa.rep _) p⟩))
            · exact p.elim
  · rename_i a' b' k n1 n2
    cases rb with
    | d rb =>
      cases rb
      split at p
      · rename_i xs hx
        split at p
        · rename_i c
          obtain ⟨c1, c2, c3⟩ := c
          obtain ⟨pa, va, rfl, ha, sa⟩ := ls_of rl ra hx
          refine .inr ⟨pa, k, va, rfl, rfl, ha, by omega, by omega, ?_, fun q hq => new_lst rl hq (sa.rep _) p⟩
          rw [sa.length, sizeLine_eq]
          have : xs.length * k.toNat ≤ 1000 * 1000 := Nat.mul_le_mul c3 (by omega)
          omega
        · exact p.elim
      · exact p.elim
  · exact p.elim

/-! ### subscripts -/
def vIx (a b : Val) (st : Sto) : Option (Val × Sto) := match b with
  | .d (.int i) => (match a with
    | .s ns => (atI ns i).map fun z => (.d (.int z), st)
    | a => match sqOf a st with
      | some xs => (atI xs i).map fun z => (.d z, st)
      | none => none)
  | _ => none
theorem ix_any : IxR X (rO (rc X cl) vIx) := by
  intro value slice pins s σ H x y v u Q I rx ry h hs
  refine ix_seq value slice pins s σ H x y v u Q I rx ry ?_ hs
  obtain ⟨G, m, st, a, b, rl, ra, rb, p⟩ := h
  unfold vIx at p
  split at p
  · rename_i i
    cases rb with
    | d rb =>
      cases rb
      split at p
      · rename_i ns
        cases ra with
        | s q =>
          cases e : atI ns i with
          | none => rw [e] at p; exact p.elim
          | some z =>
            rw [e] at p
            refine .inl ⟨_, _, i, .int z, rfl, rfl, SqL.sub rl.sub q, ?_, p _ H G m (Ext.refl _ _ _) rl (.d (.int _))⟩
            unfold atI at e ⊢
            rw [List.length_map]
            cases q : ixN ns.length i with
            | none => rw [q] at e; cases e
            | some j =>
              rw [q] at e
              simp only [Option.bind_some] at e ⊢
              rw [List.getElem?_map, e]; rfl
      · split at p
        · rename_i xs hx
          cases e : atI xs i with
          | none => rw [e] at p; exact p.elim
          | some z =>
            rw [e] at p
            obtain ⟨pa, va, rfl, k, sa⟩ := sq_of rl ra hx
            obtain ⟨w, hw, rw'⟩ := atI_rep sa e
            rcases k with k | k
            · exact .inl ⟨pa, va, i, w, rfl, rfl, SqL.of k, hw, p _ H G m (Ext.refl _ _ _) rl (.d rw')⟩
            · exact .inr (.inl ⟨pa, va, i, w, rfl, rfl, k, hw, p _ H G m (Ext.refl _ _ _) rl (.d rw')⟩)
        · exact p.elim
  · exact p.elim
variable {a b : Expr} {ea eb : EE}
theorem se_ix (ha : SE cl X W a ea) (hb : SE cl X W b eb) (hs : PlainIx b) : SE cl X W (.Subscript a b pos) (eOp vIx ea eb) := (pe_ix ix_any ha hb hs).impM fun _ _ _ h => tOp_of h
/-! slices -/
abbrev EO := Ev → Sto → R (Option Int)
def oNone : EO := fun _ st => .ok none st
def oSome (a : EE) : EO := fun env st => (a env st).bind fun v s => match v with
  | .d (.int i) => .ok (some i) s
  | _ => .bad
def relO (_ : Hp) (_ : List Addr) (x : Option Int) (v : Option Int) : Prop := x = v
def tO (C : RC) (W : WX) (ev : EO) : TO := fun σ H Q => ∃ G m env st, Rl C G m H st ∧ EnvR C G m σ env ∧ Post C relO G m H Q (fun c d H' => W c d σ H') (ev env st)
abbrev SO (cl : Nat → Addr) (X : Cx) (W : WX) (e : Option Expr) (ev : EO) : Prop := PO X e (tO (rc X cl) W ev)
theorem _root_.L2.PO.impM {e : Option Expr} {t t' : TO} (h : PO X e t) (i : ∀ σ H Q, t' σ H Q → t σ H Q) : PO X e t' := ⟨fun pins s σ H Q I q => h.run pins s σ H Q I (i _ _ _ q)⟩
theorem so_none : SO cl X W none oNone := po_none.impM fun σ H Q h => by
  obtain ⟨G, m, env, st, rl, en, p⟩ := h
  exact p none H G m (Ext.refl _ _ _) rl rfl
theorem so_some (ha : SE cl X W a ea) : SO cl X W (some a) (oSome ea) := (po_some ha).impM fun σ H Q h => by
  obtain ⟨G, m, env, st, rl, en, p⟩ := h
  refine ⟨G, m, env, st, rl, en, Post.bindE p fun v s1 x H1 G1 m1 _ e1 rl1 r1 p1 => ?_⟩
  split at p1
  · rename_i i _
    cases r1 with
    | d r => cases r; exact ⟨i, rfl, p1 _ H1 G1 m1 (Ext.refl _ _ _) rl1 rfl⟩
  · exact p1.elim
def vSl (a : Val) (lo hi : Option Int) (st : Sto) : Option (Val × Sto) := match a with
  | .d (.tuple xs) => some (.d (.tuple (cut xs lo hi)), st)
  | a => match lsOf a st with
    | some xs => some (.d (.list (cut xs lo hi)), st)
    | none => none
def eSl (a : EE) (lo hi : EO) : EE := fun env st => (a env st).bind fun x s1 => (lo env s1).bind fun l s2 => (hi env s2).bind fun h s3 => R.of (vSl x l h s3)
theorem cut_whole {α : Type} {xs : List α} {lo hi : Option Int} (h : HT.sIx xs.length 0 lo = 0 ∧ HT.sIx xs.length xs.length hi = xs.length) : cut xs lo hi = xs := by
  unfold cut
  rw [h.1, h.2]
  simp
def rSA (C : RC) : V → Option Int → Option Int → Hp → VK → Prop := fun x lo hi H Q => ∃ G m st a, Rl C G m H st ∧ RepV C G m x a ∧ PostO C (RepV C) G m H Q (vSl a lo hi st)
theorem sl_any : SlR X (rSA (rc X cl)) := by
  intro pins s σ H x v vl vu lo hi sl Q I rx hs pl pu h
  refine (sl_tupA.or sl_list) pins s σ H x v vl vu lo hi sl Q I rx hs pl pu ?_
  obtain ⟨G, m, st, a, rl, ra, p⟩ := h
  unfold vSl at p
  split at p
  · cases ra with
    | d ra =>
      cases ra with
      | tup qa sa =>
        refine .inl ⟨_, _, rfl, SqT.sub rl.sub qa, fun e => ?_, fun e q hq => new_tup rl hq (cutV_rep sa lo hi) p⟩
        refine p _ H G m (Ext.refl _ _ _) rl (.d ?_)
        rw [sa.length] at e
        rw [cut_whole e]; exact .tup qa sa
  · split at p
    · rename_i xs hx
      obtain ⟨pa, va, rfl, ha, sa⟩ := ls_of rl ra hx
      exact .inr ⟨pa, va, rfl, SqL.of ha, fun q hq => new_lst rl hq (cutV_rep sa lo hi) p⟩
    · exact p.elim
theorem se_slice {lo hi : Option Expr} {p2 : Pos} {el eh : EO} (ha : SE cl X W a ea) (hl : SO cl X W lo el) (hh : SO cl X W hi eh) : SE cl X W (.Subscript a (.Slice lo hi none p2) pos) (eSl ea el eh) := (pe_slice sl_any ha hl hh).impM fun σ H Q h => by
  obtain ⟨G, m, env, st, rl, en, p⟩ := h
  refine ⟨G, m, env, st, rl, en, Post.bindE p fun v s1 x H1 G1 m1 _ e1 rl1 r1 p1 => ⟨G1, m1, env, s1, rl1, en.ext e1, Post.bindE p1 fun l s2 y H2 G2 m2 _ e2 rl2 r2 p2 => ⟨G2, m2, env, s2, rl2, (en.ext e1).ext e2, Post.bindE p2 fun h s3 z H3 G3 m3 _ e3 rl3 r3 p3 => ?_⟩⟩⟩
  cases (show y = l from r2)
  cases (show z = h from r3)
  exact ⟨G3, m3, s3, v, rl3, (r1.ext e2).ext e3, p3.of⟩

/-! ### displays -/
/-- a value that goes into a tuple, a list: a mutable list is given up -/
def toD (v : Val) (st : Sto) : Option (D × Sto) := match v with
  | .d x => some (x, st)
  | .r i => match st[i]? with
    | some (.lst xs) => some (.list xs, st.set i .gone)
    | _ => none
  | .s _ => none
def toDs : List Val → Sto → Option (List D × Sto)
  | [], st => some ([], st)
  | v :: vs, st => match toD v st with
    | some (x, s1) => (match toDs vs s1 with
      | some (xs, s2) => some (x :: xs, s2)
      | none => none)
    | none => none
theorem toD_rep {C : RC} {G : Hp} {m : List Addr} {H : Hp} {st st' : Sto} {v : V} {a : Val} {x : D} (rl : Rl C G m H st) (r : RepV C G m v a) (h : toD a st = some (x, st')) : ∃ G', Rl C G' m H st' ∧ Ext G m H G' m H ∧ Rep C G' v x := by
  cases r with
  | d r => cases h; exact ⟨G, rl, Ext.refl _ _ _, r⟩
  | r q =>
    simp only [toD] at h
    split at h
    · rename_i xs e
      cases h
      exact rl.freeze q e
    · cases h
  | s q => cases h
theorem toDs_rep {C : RC} {m : List Addr} {H : Hp} : ∀ {as : List Val} {vs : List V} {xs : List D} {G : Hp} {st st' : Sto}, Rl C G m H st → RepVs C G m vs as → toDs as st = some (xs, st') → ∃ G', Rl C G' m H st' ∧ Ext G m H G' m H ∧ RepAll C G' vs xs
  | [], _, _, G, st, st', rl, r, h => by
    cases r
    cases h
    exact ⟨G, rl, Ext.refl _ _ _, .nil⟩
  | a :: as, _, _, G, st, st', rl, r, h => by
    cases r with
    | cons r1 r2 =>
      simp only [toDs] at h
      split at h
      · rename_i x s1 e1
        split at h
        · rename_i ys s2 e2
          cases h
          obtain ⟨G1, rl1, x1, q1⟩ := toD_rep rl r1 e1
          obtain ⟨G2, rl2, x2, q2⟩ := toDs_rep rl1 (r2.ext x1) e2
          exact ⟨G2, rl2, x1.trans x2, .cons (q1.sub x2.sub) q2⟩
        · cases h
      · cases h
def eTup (a : EA) : EE := fun env st => (a env st).bind fun vs s => match toDs vs s with
  | some (xs, s2) => if small xs.length = true then .ok (.d (.tuple xs)) s2 else .bad
  | none => .bad
def eLst (a : EA) : EE := fun env st => (a env st).bind fun vs s => match toDs vs s with
  | some (xs, s2) => if small xs.length = true then .ok (.d (.list xs)) s2 else .bad
  | none => .bad
/-- one that may be changed -/
def eLstR (a : EA) : EE := fun env st => (a env st).bind fun vs s => match toDs vs s with
  | some (xs, s2) => if small xs.length = true then .ok (.r s2.length) (s2 ++ [.lst xs]) else .bad
  | none => .bad
variable {es : List Expr} {er : EA}
theorem se_tup {k : Nat} (h : SA cl X W es er) : SE cl X W (.Tuple es k pos) (eTup er) := (pe_tup h).impM fun σ H Q h => by
  obtain ⟨G, m, env, st, rl, en, p⟩ := h
  refine ⟨G, m, env, st, rl, en, Post.bindE p fun v s1 x H1 G1 m1 _ e1 rl1 r1 p1 => ?_⟩
  split at p1
  · rename_i xs s2 e
    obtain ⟨G2, rl2, x2, q2⟩ := toDs_rep rl1 r1 e
    split at p1
    · rename_i hs
      exact ⟨by rw [q2.length]; exact small_is hs, fun q hq => new_tup rl2 hq q2 fun x H' G' m' ex => p1 x H' G' m' (x2.trans ex)⟩
    · exact p1.elim
  · exact p1.elim
theorem se_lst (h : SA cl X W es er) : SE cl X W (.List es pos) (eLst er) := (pe_lst h).impM fun σ H Q h => by
  obtain ⟨G, m, env, st, rl, en, p⟩ := h
  refine ⟨G, m, env, st, rl, en, Post.bindE p fun v s1 x H1 G1 m1 _ e1 rl1 r1 p1 => ?_⟩
  split at p1
  · rename_i xs s2 e
    obtain ⟨G2, rl2, x2, q2⟩ := toDs_rep rl1 r1 e
    split at p1
    · rename_i hs
      exact ⟨by rw [q2.length]; exact small_is hs, fun q hq => new_lst rl2 hq q2 fun x H' G' m' ex => p1 x H' G' m' (x2.trans ex)⟩
    · exact p1.elim
  · exact p1.elim
theorem se_lstR (h : SA cl X W es er) : SE cl X W (.List es pos) (eLstR er) := (pe_lst h).impM fun σ H Q h => by
  obtain ⟨G, m, env, st, rl, en, p⟩ := h
  refine ⟨G, m, env, st, rl, en, Post.bindE p fun v s1 x H1 G1 m1 _ e1 rl1 r1 p1 => ?_⟩
  split at p1
  · rename_i xs s2 e
    obtain ⟨G2, rl2, x2, q2⟩ := toDs_rep rl1 r1 e
    split at p1
    · rename_i hs
      exact ⟨by rw [q2.length]; exact small_is hs, fun q hq => new_ref rl2 hq q2 fun x H' G' m' ex => p1 x H' G' m' (x2.trans ex)⟩
    · exact p1.elim
  · exact p1.elim
end
end Mi
end

section
set_option maxRecDepth 100000
set_option autoImplicit false
namespace Mi
open PySem PySem.Spec L2

/-! ### calls of built-ins -/
abbrev BF := List Val → Sto → Option (Val × Sto)
def eCB (f : BF) (a : EA) : EE := fun env st => (a env st).bind fun vs s => R.of (f vs s)
def rC (C : RC) (f : BF) : List V → Hp → VK → Prop := fun xs H Q => ∃ G m st as, Rl C G m H st ∧ RepVs C G m xs as ∧ PostO C (RepV C) G m H Q (f as st)
theorem tCB_of {C : RC} {W : WX} {f : BF} {a : EA} {σ : L2.St} {H : Hp} {Q : VK} (h : tE C W (eCB f a) σ H Q) : tCB (rC C f) (tA C W a) σ H Q := by
  obtain ⟨G, m, env, st, rl, en, p⟩ := h
  exact ⟨G, m, env, st, rl, en, Post.bindE p fun v s1 x H1 G1 m1 _ e1 rl1 r1 p1 => ⟨G1, m1, s1, v, rl1, r1, p1.of⟩⟩
section
variable {cl : Nat → Addr} {X : Cx} {W : WX} {pos p : Pos} {a : Expr} {es : List Expr} {er : EA} {ea : EE} {x : Str} {f : BF}
theorem se_callB {id : String} (hc : CallR X (.builtin id) (rC (rc X cl) f)) (hg : Gl X x) (hm : X.mg x = none) (hv : bootBuiltins x = some (.builtin id)) (ha : SA cl X W (a :: es) er) (hn : x ≠ "__name__" := by decide) (hdb : (x == ("__debug__" : Str)) = false := by decide)
    (he : starEach (a :: es) X.env = (false, eval a X.env) :: starEach es X.env := by rfl) (hpl : (backTo pos (starEach es X.env)).any (·.1) = false := by rfl) : SE cl X W (.Call (.Name x p) (a :: es) [] pos) (eCB f er) :=
  (pe_callB hc hg hm hv ha hn hdb he hpl).impM fun _ _ _ h => tCB_of h
theorem se_callTy {T : String} (hc : CallR X (.type T) (rC (rc X cl) f)) (hg : Gl X x) (hm : X.mg x = none) (hv : bootBuiltins x = some (.type T)) (ha : SA cl X W (a :: es) er) (hn : x ≠ "__name__" := by decide) (hdb : (x == ("__debug__" : Str)) = false := by decide)
    (he : starEach (a :: es) X.env = (false, eval a X.env) :: starEach es X.env := by rfl) (hpl : (backTo pos (starEach es X.env)).any (·.1) = false := by rfl) : SE cl X W (.Call (.Name x p) (a :: es) [] pos) (eCB f er) :=
  (pe_callTy hc hg hm hv ha hn hdb he hpl).impM fun _ _ _ h => tCB_of h
theorem repVs1 {C : RC} {G : Hp} {m : List Addr} {xs : List V} {a : Val} (r : RepVs C G m xs [a]) : ∃ x, xs = [x] ∧ RepV C G m x a := by
  cases r with
  | cons r1 r2 => cases r2; exact ⟨_, rfl, r1⟩
theorem repVs2 {C : RC} {G : Hp} {m : List Addr} {xs : List V} {a b : Val} (r : RepVs C G m xs [a, b]) : ∃ x y, xs = [x, y] ∧ RepV C G m x a ∧ RepV C G m y b := by
  cases r with
  | cons r1 r2 =>
    obtain ⟨y, rfl, r3⟩ := repVs1 r2
    exact ⟨_, _, rfl, r1, r3⟩
/-! len -/
def lenOf (a : Val) (st : Sto) : Option Nat := match a with
  | .s ns => some ns.length
  | a => (sqOf a st).map List.length
def bLen : BF := fun as st => match as with
  | [a] => (lenOf a st).map fun (n : Nat) => (Val.d (.int (n : Int)), st)
  | _ => none
theorem c_len : CallR X (.builtin "len") (rC (rc X cl) bLen) := callR_imp call_len_seq fun xs H Q h => by
  obtain ⟨G, m, st, as, rl, ra, p⟩ := h
  unfold bLen at p
  split at p
  · obtain ⟨v, rfl, rv⟩ := repVs1 ra
    rename_i a
    cases e : lenOf a st with
    | none => rw [e] at p; exact p.elim
    | some n =>
      rw [e] at p
      unfold lenOf at e
      split at e
      · cases e
        cases rv with
        | s q => exact ⟨_, _, rfl, .inl (SqL.sub rl.sub q), by rw [List.length_map]; exact p _ H G m (Ext.refl _ _ _) rl (.d (.int _))⟩
      · cases e2 : sqOf a st with
        | none => rw [e2] at e; cases e
        | some ys =>
          rw [e2] at e
          cases e
          obtain ⟨q, vs, rfl, k, sa⟩ := sq_of rl rv e2
          rcases k with k | k
          · exact ⟨q, vs, rfl, .inl (SqL.of k), by rw [sa.length]; exact p _ H G m (Ext.refl _ _ _) rl (.d (.int _))⟩
          · exact ⟨q, vs, rfl, .inr k, by rw [sa.length]; exact p _ H G m (Ext.refl _ _ _) rl (.d (.int _))⟩
  · exact p.elim
/-! tuple, list -/
def bTuple : BF := fun as st => match as with
  | [a] => (sqOf a st).map fun xs => (.d (.tuple xs), st)
  | _ => none
theorem c_tuple : CallR X (.type "tuple") (rC (rc X cl) bTuple) := callR_imp call_tuple_of fun xs H Q h => by
  obtain ⟨G, m, st, as, rl, ra, p⟩ := h
  unfold bTuple at p
  split at p
  · obtain ⟨v, rfl, rv⟩ := repVs1 ra
    rename_i a
    cases e2 : sqOf a st with
    | none => rw [e2] at p; exact p.elim
    | some ys =>
      rw [e2] at p
      have e3 := e2
      unfold sqOf at e3
      split at e3
      · cases e3
        cases rv with
        | d r =>
          cases r with
          | tup g ra => exact ⟨_, _, rfl, .inr ⟨SqT.sub rl.sub g, p _ H G m (Ext.refl _ _ _) rl (.d (.tup g ra))⟩⟩
      · obtain ⟨q, vs, rfl, k, sa⟩ := ls_of rl rv e3
        exact ⟨q, vs, rfl, .inl ⟨SqL.of k, fun l hl => new_tup rl hl sa p⟩⟩
  · exact p.elim
def bList : BF := fun as st => match as with
  | [a] => (sqOf a st).map fun xs => (.d (.list xs), st)
  | _ => none
def bListR : BF := fun as st => match as with
  | [a] => (sqOf a st).map fun xs => (.r st.length, st ++ [.lst xs])
  | _ => none
theorem c_list : CallR X (.type "list") (rC (rc X cl) bList) := callR_imp call_list_of fun xs H Q h => by
  obtain ⟨G, m, st, as, rl, ra, p⟩ := h
  unfold bList at p
  split at p
  · obtain ⟨v, rfl, rv⟩ := repVs1 ra
    rename_i a
    cases e2 : sqOf a st with
    | none => rw [e2] at p; exact p.elim
    | some ys =>
      rw [e2] at p
      obtain ⟨q, vs, rfl, k, sa⟩ := sq_of rl rv e2
      exact ⟨q, vs, rfl, k.imp SqL.of id, fun l hl => new_lst rl hl sa p⟩
  · exact p.elim
theorem c_listR : CallR X (.type "list") (rC (rc X cl) bListR) := callR_imp call_list_of fun xs H Q h => by
  obtain ⟨G, m, st, as, rl, ra, p⟩ := h
  unfold bListR at p
  split at p
  · obtain ⟨v, rfl, rv⟩ := repVs1 ra
    rename_i a
    cases e2 : sqOf a st with
    | none => rw [e2] at p; exact p.elim
    | some ys =>
      rw [e2] at p
      obtain ⟨q, vs, rfl, k, sa⟩ := sq_of rl rv e2
      exact ⟨q, vs, rfl, k.imp SqL.of id, fun l hl => new_ref rl hl sa p⟩
  · exact p.elim
/-! all, any, max, sum, min -/
def bAll : BF := fun as st => match as with
  | [a] => (match lsOf a st with
    | some xs => (boolsOf xs).map fun bs => (.d (.bool (bs.all id)), st)
    | none => none)
  | _ => none
def bAny : BF := fun as st => match as with
  | [a] => (match lsOf a st with
    | some xs => (boolsOf xs).map fun bs => (.d (.bool (bs.any id)), st)
    | none => none)
  | _ => none
theorem c_all (hc : X.calm = true) : CallR X (.builtin "all") (rC (rc X cl) bAll) := callR_imp (cr_all hc) fun xs H Q h => by
  obtain ⟨G, m, st, as, rl, ra, p⟩ := h
  unfold bAll at p
  split at p
  · obtain ⟨v, rfl, rv⟩ := repVs1 ra
    split at p
    · rename_i ys e
      cases e2 : boolsOf ys with
      | none => rw [e2] at p; exact p.elim
      | some bs =>
        rw [e2] at p
        obtain ⟨q, vs, rfl, k, sa⟩ := ls_of rl rv e
        rw [boolsOf_eq e2] at sa
        rw [sa.bools] at k
        exact ⟨q, bs, rfl, SqL.of k, p _ H G m (Ext.refl _ _ _) rl (.d (.bl _))⟩
    · exact p.elim
  · exact p.elim
theorem c_any (hc : X.calm = true) : CallR X (.builtin "any") (rC (rc X cl) bAny) := callR_imp (cr_any hc) fun xs H Q h => by
  obtain ⟨G, m, st, as, rl, ra, p⟩ := h
  unfold bAny at p
  split at p
  · obtain ⟨v, rfl, rv⟩ := repVs1 ra
    split at p
    · rename_i ys e
      cases e2 : boolsOf ys with
      | none => rw [e2] at p; exact p.elim
      | some bs =>
        rw [e2] at p
        obtain ⟨q, vs, rfl, k, sa⟩ := ls_of rl rv e
        rw [boolsOf_eq e2] at sa
        rw [sa.bools] at k
        exact ⟨q, bs, rfl, SqL.of k, p _ H G m (Ext.refl _ _ _) rl (.d (.bl _))⟩
    · exact p.elim
  · exact p.elim
def maxI : Int → List Int → Int
  | a, [] => a
  | a, b :: r => maxI (if a < b then b else a) r
theorem maxI_spec : ∀ (r : List Int) (a m : Int), m ∈ a :: r → (∀ y ∈ a :: r, y ≤ m) → maxI a r = m
  | [], a, m, h, _ => by simp at h; exact h.symm
  | b :: r, a, m, h, k => by
    show maxI (if a < b then b else a) r = m
    have ha := k a (by simp)
    have hb := k b (by simp)
    refine maxI_spec r _ m ?_ fun y hy => ?_
    · rcases List.mem_cons.mp h with e | h
      · by_cases q : a < b
        · omega
        · rw [if_neg q, e]; exact List.mem_cons_self
      · rcases List.mem_cons.mp h with e | h
        · by_cases q : a < b
          · rw [if_pos q, e]; exact List.mem_cons_self
          · rw [if_neg q]
            have : m = a := by omega
            rw [this]; exact List.mem_cons_self
        · exact List.mem_cons_of_mem _ h
    · rcases List.mem_cons.mp hy with e | hy
      · rw [e]; split <;> assumption
      · exact k y (by simp [hy])
def bMax : BF := fun as st => match as with
  | [a] => (match lsOf a st with
    | some xs => (match intsOf xs with
      | some (b :: bs) => some (.d (.int (maxI b bs)), st)
      | _ => none)
    | none => none)
  | _ => none
theorem c_max (hc : X.calm = true) : CallR X (.builtin "max") (rC (rc X cl) bMax) := callR_imp (cr_max hc) fun xs H Q h => by
  obtain ⟨G, m, st, as, rl, ra, p⟩ := h
  unfold bMax at p
  split at p
  · obtain ⟨v, rfl, rv⟩ := repVs1 ra
    split at p
    · rename_i ys e
      split at p
      · rename_i b bs e2
        obtain ⟨q, vs, rfl, k, sa⟩ := ls_of rl rv e
        rw [intsOf_eq e2] at sa
        rw [sa.ints] at k
        refine ⟨q, b :: bs, rfl, SqL.of k, by simp, fun z h1 h2 => ?_⟩
        rw [← maxI_spec bs b z h1 h2]
        exact p _ H G m (Ext.refl _ _ _) rl (.d (.int _))
      · exact p.elim
    · exact p.elim
  · exact p.elim
def bSum : BF := fun as st => match as with
  | [a] => (match lsOf a st with
    | some xs => (intsOf xs).map fun bs => (.d (.int bs.sum), st)
    | none => none)
  | _ => none
theorem c_sum (hc : X.calm = true) : CallR X (.builtin "sum") (rC (rc X cl) bSum) := callR_imp (cr_sum hc) fun xs H Q h => by
  obtain ⟨G, m, st, as, rl, ra, p⟩ := h
  unfold bSum at p
  split at p
  · obtain ⟨v, rfl, rv⟩ := repVs1 ra
    split at p
    · rename_i ys e
      cases e2 : intsOf ys with
      | none => rw [e2] at p; exact p.elim
      | some bs =>
        rw [e2] at p
        obtain ⟨q, vs, rfl, k, sa⟩ := ls_of rl rv e
        rw [intsOf_eq e2] at sa
        rw [sa.ints] at k
        exact ⟨q, bs, rfl, SqL.of k, p _ H G m (Ext.refl _ _ _) rl (.d (.int _))⟩
    · exact p.elim
  · exact p.elim
def bMin : BF := fun as st => match as with
  | [.d (.int i), .d (.int j)] => some (.d (.int (if j < i then j else i)), st)
  | _ => none
theorem c_min (hc : X.calm = true) : CallR X (.builtin "min") (rC (rc X cl) bMin) := callR_imp (call_min2 hc) fun xs H Q h => by
  obtain ⟨G, m, st, as, rl, ra, p⟩ := h
  unfold bMin at p
  split at p
  · obtain ⟨v, u, rfl, rv, ru⟩ := repVs2 ra
    cases rv with
    | d rv =>
      cases rv
      cases ru with
      | d ru => cases ru; exact ⟨_, _, rfl, p _ H G m (Ext.refl _ _ _) rl (.d (.int _))⟩
  · exact p.elim
def bInt : BF := fun as st => match as with
  | [.d (.int i)] => some (.d (.int i), st)
  | [.d (.bool b)] => some (.d (.int (if b then 1 else 0)), st)
  | _ => none
theorem c_int : CallR X (.type "int") (rC (rc X cl) bInt) := callR_imp call_int1 fun xs H Q h => by
  obtain ⟨G, m, st, as, rl, ra, p⟩ := h
  unfold bInt at p
  split at p
  · obtain ⟨v, rfl, rv⟩ := repVs1 ra
    cases rv with
    | d rv => cases rv; exact .inl ⟨_, rfl, p _ H G m (Ext.refl _ _ _) rl (.d (.int _))⟩
  · obtain ⟨v, rfl, rv⟩ := repVs1 ra
    cases rv with
    | d rv => cases rv; exact .inr ⟨_, rfl, p _ H G m (Ext.refl _ _ _) rl (.d (.int _))⟩
  · exact p.elim
/-! isinstance(x, a built-in class) -/
def tyOf (a : Val) (st : Sto) : Option String := match a with
  | .d .none => some "NoneType"
  | .d (.bool _) => some "bool"
  | .d (.int _) => some "int"
  | .d (.str _) => some "str"
  | .d (.list _) => some "list"
  | .d (.tuple _) => some "tuple"
  | .r i => (match st[i]? with
    | some (.lst _) => some "list"
    | _ => none)
  | _ => none
theorem tyX_tup {K : PySem.W.Frag} {H : Hp} {q : Addr} {xs : List V} (h : SqT K H q xs) : TyX K H (.ref q) (.type "tuple") := by
  rcases h with (h | ⟨o, h⟩) | ⟨o, its, n, h, hc, _⟩
  · exact .base (.tup h)
  · exact .fTuple h
  · exact .kTuple h hc
theorem ty_of {C : RC} {G : Hp} {m : List Addr} {H : Hp} {st : Sto} {v : V} {a : Val} {T : String} (rl : Rl C G m H st) (r : RepV C G m v a) (h : tyOf a st = some T) : TyX C.K H v (.type T) := by
  cases r with
  | d r =>
    cases r with
    | non => cases h; exact .base .non
    | bl b => cases h; exact .base (.bl b)
    | int b => cases h; exact .base (.int b)
    | str b => cases h; exact .base (.str b)
    | lst g ra => cases h; exact .base (.lst (rl.sub _ _ g))
    | tup g ra => cases h; exact tyX_tup (SqT.sub rl.sub g)
  | r q =>
    simp only [tyOf] at h
    split at h
    · rename_i ys e
      cases h
      obtain ⟨vs, hv, ra⟩ := rl.obj _ _ _ e q
      exact .base (.lst hv)
    · cases h
  | s q => cases h
def eIsi (T : String) (a : EE) : EE := fun env st => (a env st).bind fun v s => match tyOf v s with
  | some t => (match kitB t T with
    | some b => .ok (.d (.bool b)) s
    | none => .bad)
  | none => .bad
theorem se_isi {T : String} {y : Str} {p2 : Pos} (ha : SE cl X W a ea) (hg : Gl X "isinstance") (hm : X.mg "isinstance" = none) (hgT : Gl X y) (hmT : X.mg y = none) (hvT : bootBuiltins y = some (.type T)) (hn : y ≠ "__name__" := by decide) (hdb : (y == ("__debug__" : Str)) = false := by decide)
    (he : starEach [a, .Name y p2] X.env = (false, eval a X.env) :: starEach [.Name y p2] X.env := by rfl) (he2 : starEach [.Name y p2] X.env = (false, eval (.Name y p2) X.env) :: starEach [] X.env := by rfl) (hpl : (backTo pos (starEach [.Name y p2] X.env)).any (·.1) = false := by rfl) :
    SE cl X W (.Call (.Name "isinstance" p) [a, .Name y p2] [] pos) (eIsi T ea) :=
  (pe_callB call_isi hg hm (by decide +kernel) (pa_cons ha (pa_cons (pe_bltn (v := .ty T) hgT hmT hvT rfl hn hdb) pa_nil he2) he) (by decide) (by decide) he hpl).impM fun σ H Q h => by
  obtain ⟨G, m, env, st, rl, en, p⟩ := h
  refine ⟨G, m, env, st, rl, en, Post.bindE p fun v s1 x H1 G1 m1 _ e1 rl1 r1 p1 => ?_⟩
  split at p1
  · rename_i t et
    split at p1
    · rename_i b eb
      exact ⟨x, .ty T, .type t, .type T, b, rfl, .ty T, ty_of rl1 r1 et, kit_ty eb, p1 _ H1 G1 m1 (Ext.refl _ _ _) rl1 (.d (.bl _))⟩
    · exact p1.elim
  · exact p1.elim
end
end Mi
end

section
set_option maxRecDepth 100000
set_option autoImplicit false
namespace Mi
open PySem PySem.Spec L2

/-! ### defs -/
abbrev FN := List Val → Sto → R Val
def eCall (f : FN) (a : EA) : EE := fun env st => (a env st).bind fun vs s => f vs s
def spF (C : RC) (n : Nat) (f : FN) : Sp := fun vs H Q E => ∃ G m st as, Rl C G m H st ∧ RepVs C G m vs as ∧ as.length = n ∧ Post C (RepV C) G m H Q E (f as st)
section
variable {cl : Nat → Addr} {X : Cx} {W : WX} {pos p : Pos} {a : Expr} {es : List Expr} {er : EA} {ea : EE} {x : Str} {k n : Nat} {f : FN} {fa : Addr} {fd : FuncData} {ps : List Str}
/-- how a def stands: it does what f says, within k calls -/
structure Fok (cl : Nat → Addr) (X : Cx) (k : Nat) (x : Str) (n : Nat) (f : FN) : Prop where
  ok : ∃ (fa : Addr) (fd : FuncData) (ps : List Str), ps.length = n ∧ FnOk X.prog X.w X.K X.mg X.base (L2.CX X.prog X.w) k fa fd ps (spF (rc X cl) n f) ∧ X.mg x = some (.ref fa) ∧ PySem.W.keepIn X.K (.ref fa) = true ∧ Binds X.K fd ps []
theorem se_call (F : Fok cl X k x n f) (hr : Room k X.A) (tk : Takes X W) (hg : Gl X x) (ha : SA cl X W (a :: es) er) (hl : (a :: es).length = n) (hlen : ∀ env st vs s, er env st = .ok vs s → vs.length = (a :: es).length) (hdb : (x == ("__debug__" : Str)) = false := by decide)
    (he : starEach (a :: es) X.env = (false, eval a X.env) :: starEach es X.env := by rfl) (hpl : (backTo pos (starEach es X.env)).any (·.1) = false := by rfl) : SE cl X W (.Call (.Name x p) (a :: es) [] pos) (eCall f er) := by
  obtain ⟨fa, fd, ps, hp, F, hm, hk, hb⟩ := F.ok
  refine (pe_callS F hr hg hm hk hb (fun σ => passAt tk σ) ha hdb he hpl).impM fun σ H Q h => ?_
  obtain ⟨G, m, env, st, rl, en, p⟩ := h
  refine ⟨G, m, env, st, rl, en, Post.bindE p fun v s1 x H1 G1 m1 e0 e1 rl1 r1 p1 => ⟨G1, m1, s1, v, rl1, r1, ?_, p1⟩⟩
  rw [hlen _ _ _ _ e0, hl]
/-- at a def's end: what it made of its own is given up -/
def insOk (n : Nat) : Sto → Bool
  | [] => true
  | .ins _ fs :: r => (fs.all fun q => match q.2 with
    | .r i => decide (i < n)
    | _ => true) && insOk n r
  | _ :: r => insOk n r
def fin (n : Nat) (v : Val) (st : Sto) : R Val := if insOk n (st.take n) = true then (match v with
    | .d x => .ok (.d x) (st.take n)
    | .s ns => .ok (.s ns) (st.take n)
    | .r i => if i < n then .ok (.r i) (st.take n) else match st[i]? with
      | some (.lst xs) => .ok (.d (.list xs)) (st.take n)
      | _ => .bad) else .bad
def runF (N np : Nat) (ev : ES) : FN := fun as st => if as.length = np then (match ev (as.map some ++ List.replicate (N - np) none) st with
    | .ok (.nx _) s => fin st.length (.d .none) s
    | .ok (.rt v) s => fin st.length v s
    | .ok (.ex e _) s => if insOk st.length (s.take st.length) = true then .exc e (s.take st.length) else .bad
    | _ => .bad) else .bad
theorem insOk_mem : ∀ {n : Nat} {st : Sto}, insOk n st = true → ∀ {i c : Nat} {fs : List (Str × Val)}, st[i]? = some (.ins c fs) → ∀ q ∈ fs, ∀ j, q.2 = .r j → j < n
  | n, [], _, i, c, fs, e, q, hq, j, ej => by simp at e
  | n, o :: r, h, i, c, fs, e, q, hq, j, ej => by
    cases i with
    | zero =>
      simp at e
      subst e
      simp only [insOk, Bool.and_eq_true, List.all_eq_true] at h
      have := h.1 q hq
      rw [ej] at this
      exact of_decide_eq_true this
    | succ i =>
      have hr : insOk n r = true := by
        cases o with
        | ins c' fs' => simp only [insOk, Bool.and_eq_true] at h; exact h.2
        | lst _ => exact h
        | dct _ => exact h
        | gone => exact h
      exact insOk_mem hr (by simpa using e) q hq j ej
theorem RepVs.cutM {C : RC} {G : Hp} {m m' : List Addr} (hm : ∀ i a, i < m.length → m'[i]? = some a → m[i]? = some a) : ∀ {vs : List V} {xs : List Val}, RepVs C G m' vs xs → (∀ x ∈ xs, ∀ j, x = .r j → j < m.length) → RepVs C G m vs xs
  | _, _, .nil, _ => .nil
  | _, _, .cons h r, k => by
    refine .cons ?_ (RepVs.cutM hm r fun x hx => k x (List.mem_cons_of_mem _ hx))
    cases h with
    | d h => exact .d h
    | s h => exact .s h
    | r h => exact .r (hm _ _ (k _ List.mem_cons_self _ rfl) h)
/-- the store is cut back to what was there -/
theorem Rl.cut {C : RC} {G G' : Hp} {m m' : List Addr} {H H' : Hp} {st' : Sto} {n : Nat} (hn : m.length = n) (e : Ext G m H G' m' H') (r : Rl C G' m' H' st') (ok : insOk n (st'.take n) = true) : Rl C G' m H' (st'.take n) ∧ Ext G m H G' m H' := by
  have len : n ≤ m'.length := by
    cases n with
    | zero => exact Nat.zero_le _
    | succ k =>
      have : k < m.length := by omega
      have q := e.pre k m[k] (List.getElem?_eq_getElem this)
      have := (List.getElem?_eq_some_iff.mp q).1
      omega
  have same : ∀ (i : Nat) (a : Addr), i < m.length → m'[i]? = some a → m[i]? = some a := fun i a hi q => by
    have z := e.pre i m[i] (List.getElem?_eq_getElem hi)
    rw [q] at z
    cases z
    exact List.getElem?_eq_getElem hi
  have tk : ∀ (i : Nat) (o : MO), (st'.take n)[i]? = some o → st'[i]? = some o := fun i o q => by
    rw [List.getElem?_take] at q
    split at q
    · exact q
    · cases q
  have sub : m'.take n = m := by
    apply List.ext_getElem?
    intro i
    rw [List.getElem?_take]
    by_cases hi : i < n
    · rw [if_pos hi]
      rw [List.getElem?_eq_getElem (show i < m.length by omega)]
      exact e.pre i _ (List.getElem?_eq_getElem (by omega))
    · rw [if_neg hi, List.getElem?_eq_none (by omega)]
  refine ⟨⟨r.sub, ?_, ?_, fun a ha => r.liv a (by rw [← sub] at ha; exact List.mem_of_mem_take ha), fun i a o q1 q2 q3 => r.out i a o (e.pre i a q1) (tk i o q2) q3, fun i o a q1 q2 => ?_⟩, ⟨e.sub, fun _ _ q => q, e.frm, fun _ z => .inl z, e.gn⟩⟩
  · rw [List.length_take, ← r.len]; omega
  · rw [← sub]; exact r.nd.sublist (List.take_sublist _ _)
  · have z := r.obj i o a (tk i o q1) (e.pre i a q2)
    cases o with
    | lst xs => exact z
    | dct _ => exact z
    | gone => exact z
    | ins c fs =>
      obtain ⟨dx, vs, h1, h2, h3⟩ := z
      refine ⟨dx, vs, h1, h2, RepVs.cutM same h3 fun x hx j ej => ?_⟩
      obtain ⟨q, hq, eq⟩ := List.mem_map.mp hx
      rw [hn]
      exact insOk_mem ok q1 q hq j (by rw [eq]; exact ej)
theorem envR_start {C : RC} {G : Hp} {m : List Addr} {N : List Str} {vs : List V} {as : List Val} (r : RepVs C G m vs as) (hl : vs.length ≤ N.length) : EnvR C G m (L2.start N vs) (as.map some ++ List.replicate (N.length - as.length) none) := by
  have e := r.length
  refine ⟨by simp [L2.start, e], fun i v q => ?_⟩
  unfold L2.start
  by_cases hi : i < as.length
  · rw [List.getElem?_append_left (by simpa using hi)] at q
    rw [List.getElem?_map] at q
    cases q2 : as[i]? with
    | none => rw [q2] at q; cases q
    | some b =>
      rw [q2] at q
      cases q
      obtain ⟨x, hx, rx⟩ := r.get q2
      exact ⟨x, by rw [List.getElem?_append_left (by simpa [e] using hi), List.getElem?_map, hx]; rfl, rx⟩
  · rw [List.getElem?_append_right (by simpa using hi)] at q
    rw [List.getElem?_replicate] at q
    split at q <;> cases q
theorem fn_sound_aux {w : World} {K : PySem.W.Frag} {N ps : List Str} {ev : ES} {cl : Nat → Addr} {vs : List V} {H : Hp} {Q : VK} {E : XK} (hle : ps.length ≤ N.length) (h : spF ⟨K, w, cl⟩ ps.length (runF N.length ps.length ev) vs H Q E) :
    tS ⟨K, w, cl⟩ (fun cls d _ H' => E cls d H') ev { nx := fun _ H' => Q .non H', rt := Q } (L2.start N vs) H := by
  obtain ⟨G, m, st, as, rl, ra, hl, p⟩ := h
  refine ⟨G, m, as.map some ++ List.replicate (N.length - ps.length) none, st, rl, ?_, ?_⟩
  · have := envR_start (N := N) ra (by rw [ra.length, hl]; exact hle)
    rw [hl] at this
    exact this
  · unfold runF at p
    rw [if_pos hl] at p
    have fz : ∀ {v : Val} {s1 : Sto}, Post ⟨K, w, cl⟩ (RepV ⟨K, w, cl⟩) G m H Q E (fin st.length v s1) → ∀ x H' G' m', Ext G m H G' m' H' → Rl ⟨K, w, cl⟩ G' m' H' s1 → RepV ⟨K, w, cl⟩ G' m' x v → Q x H' := fun {v s1} p x H' G' m' ex r1 rx => by
      unfold fin at p
      split at p
      · rename_i ok
        obtain ⟨r2, ex2⟩ := Rl.cut (n := st.length) rl.len ex r1 ok
        have z := rl.len
        have len : m.length ≤ m'.length := by
          cases hm : m.length with
          | zero => exact Nat.zero_le _
          | succ q =>
            have h1 : q < m.length := by omega
            have h2 := ex.pre q m[q] (List.getElem?_eq_getElem h1)
            have h3 := (List.getElem?_eq_some_iff.mp h2).1
            omega
        split at p
        · cases rx with
          | d rx => exact p x H' G' m ex2 r2 (.d rx)
        · cases rx with
          | s rx => exact p _ H' G' m ex2 r2 (.s rx)
        · rename_i i
          cases rx with
          | r q =>
            split at p
            · rename_i hi
              refine p _ H' G' m ex2 r2 (.r ?_)
              have hz : i < m.length := by omega
              have w1 := ex.pre i m[i] (List.getElem?_eq_getElem hz)
              rw [q] at w1
              cases w1
              exact List.getElem?_eq_getElem hz
            · rename_i hi
              split at p
              · rename_i xs e
                obtain ⟨G2, r3, ex3, q3⟩ := r1.freeze q e
                have ok2 : insOk st.length ((s1.set i .gone).take st.length) = true := by
                  rw [List.take_set_of_le (Nat.not_lt.mp hi)]; exact ok
                obtain ⟨r4, ex4⟩ := Rl.cut (n := st.length) rl.len (ex.trans ex3) r3 ok2
                rw [List.take_set_of_le (Nat.not_lt.mp hi)] at r4
                exact p _ H' G2 m ex4 r4 (.d q3)
              · exact p.elim
      · exact p.elim
    split at p
    · rename_i env s1 e
      rw [e]
      exact fun σ' H' G' m' ex r1 _ => fz p .non H' G' m' ex r1 (.d .non)
    · rename_i v s1 e
      rw [e]
      exact fun x H' G' m' ex r1 rx => fz p x H' G' m' ex r1 rx
    · rename_i e1 env s1 e
      rw [e]
      split at p
      · rename_i ok
        intro cls d σ' H' G' m' ex r1 _ rx
        obtain ⟨r2, ex2⟩ := Rl.cut (n := st.length) rl.len ex r1 ok
        exact p cls d H' G' m ex2 r2 rx
      · exact p.elim
    · exact p.elim
end
end Mi
end

section
set_option maxRecDepth 100000
set_option autoImplicit false
namespace Mi
open PySem PySem.Spec L2

/-! ### statements -/
def sNx : ES := fun env st => .ok (.nx env) st
def sSeq (a b : ES) : ES := fun env st => match a env st with
  | .ok (.nx e) s => b e s
  | r => r
def sExpr (e : EE) : ES := fun env st => (e env st).bindS env fun _ s => .ok (.nx env) s
def sRet (e : EE) : ES := fun env st => (e env st).bindS env fun v s => .ok (.rt v) s
def sRetN : ES := fun _ st => .ok (.rt (.d .none)) st
def sIf (t : ET) (a b : ES) : ES := fun env st => (t env st).bindS env fun v s => match v with
  | true => a env s
  | false => b env s
def sSet (i : Nat) (e : EE) : ES := fun env st => (e env st).bindS env fun v s => .ok (.nx (env.set i (some v))) s
def sNever : ES := fun _ _ => .bad
section
variable {cl : Nat → Addr} {X : Cx} {W : WX} {pos : Pos} {a b c : Expr} {ea eb : EE} {ta : ET} {st : Stmt} {rest l1 l2 : List Stmt} {s1 s2 : ES}
theorem ss_nil : SSs cl X W [] sNx := pss_nil.impM fun D σ H h => by
  obtain ⟨G, m, env, st, rl, en, p⟩ := h
  exact p σ H G m (Ext.refl _ _ _) rl en
theorem PostS.seq {C : RC} {G : Hp} {m : List Addr} {H : Hp} {D D' : Ends} {env : Ev} {st : Sto} (h : PostS C G m H D W (sSeq s1 s2 env st))
    (k : ∀ e s, s1 env st = .ok (.nx e) s → ∀ σ' H' G' m', Ext G m H G' m' H' → Rl C G' m' H' s → EnvR C G' m' σ' e → PostS C G' m' H' D W (s2 e s) → D'.nx σ' H') (hr : D'.rt = D.rt) (hb : D'.bk = D.bk) (hc : D'.ct = D.ct) : PostS C G m H D' W (s1 env st) := by
  unfold sSeq at h
  cases e : s1 env st with
  | ok f s =>
    rw [e] at h
    cases f with
    | nx e' => exact fun σ' H' G' m' ex rl en => k e' s e σ' H' G' m' ex rl en (PostS.ext ex h)
    | rt v => exact fun x H' G' m' ex rl rx => by rw [hr]; exact h x H' G' m' ex rl rx
    | bk v => exact fun x H' G' m' ex rl rx => by rw [hb]; exact h x H' G' m' ex rl rx
    | ct v => exact fun x H' G' m' ex rl rx => by rw [hc]; exact h x H' G' m' ex rl rx
    | ex v w => exact h
  | exc e1 s => rw [e] at h; exact h
  | bad => rw [e] at h; exact h
theorem ss_cons (h1 : SS cl X W st s1) (h2 : SSs cl X W rest s2) : SSs cl X W (st :: rest) (sSeq s1 s2) := (pss_cons h1 h2).impM fun D σ H h => by
  obtain ⟨G, m, env, st, rl, en, p⟩ := h
  exact ⟨G, m, env, st, rl, en, PostS.seq p (fun e s _ σ' H' G' m' ex rl' en' q => ⟨G', m', e, s, rl', en', q⟩) rfl rfl rfl⟩
theorem ss_one (h1 : SS cl X W st s1) : SSs cl X W [st] s1 := pss_one h1
theorem ss_pass : SS cl X W (.Pass pos) sNx := ps_pass.impM fun D σ H h => by
  obtain ⟨G, m, env, st, rl, en, p⟩ := h
  exact p σ H G m (Ext.refl _ _ _) rl en
theorem ss_never : SS cl X W st sNever := ps_never.impM fun D σ H h => by
  obtain ⟨G, m, env, st, rl, en, p⟩ := h
  exact p
theorem ss_expr (he : SE cl X W a ea) (hs : swapsWith a none pos.line X.env = pure false := by rfl) : SS cl X W (.Expr a pos) (sExpr ea) := (ps_expr he hs).impM fun D σ H h => by
  obtain ⟨G, m, env, st, rl, en, p⟩ := h
  exact ⟨G, m, env, st, rl, en, Post.bindS en p fun v s1 x H1 G1 m1 _ e1 rl1 r1 p1 => p1 σ H1 G1 m1 (Ext.refl _ _ _) rl1 (en.ext e1)⟩
theorem ss_ret (he : SE cl X W a ea) : SS cl X W (.Return (some a) pos) (sRet ea) := (ps_ret he).impM fun D σ H h => by
  obtain ⟨G, m, env, st, rl, en, p⟩ := h
  exact ⟨G, m, env, st, rl, en, Post.bindS en p fun v s1 x H1 G1 m1 _ e1 rl1 r1 p1 => p1 x H1 G1 m1 (Ext.refl _ _ _) rl1 r1⟩
theorem ss_retN : SS cl X W (.Return none pos) sRetN := ps_retN.impM fun D σ H h => by
  obtain ⟨G, m, env, st, rl, en, p⟩ := h
  exact p .non H G m (Ext.refl _ _ _) rl (.d .non)
theorem ss_if (hc : ST cl X W c ta) (h1 : SSs cl X W l1 s1) (h2 : SSs cl X W l2 s2) : SS cl X W (.If c l1 l2 pos) (sIf ta s1 s2) := (ps_if hc h1 h2).impM fun D σ H h => by
  obtain ⟨G, m, env, st, rl, en, p⟩ := h
  refine ⟨G, m, env, st, rl, en, Post.bindS en p fun v s1 x H1 G1 m1 _ e1 rl1 r1 p1 => ?_⟩
  cases (show x = v from r1)
  cases v with
  | true => rw [if_pos rfl]; exact ⟨G1, m1, env, s1, rl1, en.ext e1, p1⟩
  | false => rw [if_neg (by decide)]; exact ⟨G1, m1, env, s1, rl1, en.ext e1, p1⟩
theorem ss_set {x : Str} {pos' : Pos} (i : Nat) (hN : X.N.Nodup) (hi : X.N[i]? = some x) (hx : Loc X.env.scope x) (he : SE cl X W a ea) (hs : swapsWith a (some (.Name x pos')) pos.line X.env = pure false := by rfl) (hf : X.fn x = true ∨ X.env.scope.names.lookup x = some .local := by first | exact .inl rfl | exact .inr rfl | assumption) :
    SS cl X W (.Assign [.Name x pos'] a pos) (sSet i ea) := (ps_set hN hi hx he hs hf).impM fun D σ H h => by
  obtain ⟨G, m, env, st, rl, en, p⟩ := h
  exact ⟨G, m, env, st, rl, en, Post.bindS en p fun v s1 x H1 G1 m1 _ e1 rl1 r1 p1 => p1 _ H1 G1 m1 (Ext.refl _ _ _) rl1 ((en.ext e1).set r1 i)⟩

/-! ### targets -/
inductive Tg where
  | nm (i : Nat)
  | tp (is : List Nat)
def setAll : List Nat → List D → Ev → Ev
  | i :: is, x :: xs, env => setAll is xs (env.set i (some (.d x)))
  | _, _, env => env
def Tg.put : Tg → D → Ev → Option Ev
  | .nm i, d, env => some (env.set i (some (.d d)))
  | .tp is, .tuple xs, env => if xs.length = is.length then some (setAll is xs env) else none
  | .tp _, _, _ => none
def Tg.slots : Tg → List Nat
  | .nm i => [i]
  | .tp is => is
/-- slots outside a list are as they were -/
def Outside (vs : List Nat) (σ σ' : L2.St) : Prop := σ'.length = σ.length ∧ ∀ i : Nat, i ∉ vs → σ'[i]? = σ[i]?
theorem Outside.refl (vs : List Nat) (σ : L2.St) : Outside vs σ σ := ⟨rfl, fun _ _ => rfl⟩
def gAll : List Nat → TGs
  | [] => gNil
  | i :: is => gCons (gName i) (gAll is)
def Tg.g (K : PySem.W.Frag) : Tg → TG
  | .nm i => gName i
  | .tp is => gTup K is.length (gAll is)
theorem gAll_of {C : RC} {G : Hp} {m : List Addr} {H : Hp} : ∀ (is : List Nat) (vs : List V) (xs : List D) (σ : L2.St) (env : Ev) (Q : L2.St → Hp → Prop), EnvR C G m σ env → RepAll C G vs xs → xs.length = is.length →
    (∀ σ', Outside is σ σ' → EnvR C G m σ' (setAll is xs env) → Q σ' H) → gAll is vs σ H Q
  | [], _, [], σ, env, Q, en, r, hl, h => by cases r; exact ⟨rfl, h σ (Outside.refl _ _) en⟩
  | [], _, _ :: _, σ, env, Q, en, r, hl, h => by simp at hl
  | _ :: _, _, [], σ, env, Q, en, r, hl, h => by simp at hl
  | i :: is, _, x :: xs, σ, env, Q, en, r, hl, h => by
    cases r with
    | cons r1 r2 =>
      refine ⟨_, _, rfl, gAll_of is _ xs _ _ Q (en.set (.d r1) i) r2 (by simpa using hl) fun σ' o en' => h σ' ⟨by rw [o.1]; simp, fun j hj => ?_⟩ en'⟩
      rw [o.2 j (fun z => hj (List.mem_cons_of_mem _ z)), List.getElem?_set_ne (fun z => hj (by rw [z]; exact List.mem_cons_self))]
theorem Tg.g_of {C : RC} {G : Hp} {m : List Addr} {H : Hp} {st : Sto} {tg : Tg} {x : V} {d : D} {σ : L2.St} {env env' : Ev} {Q : L2.St → Hp → Prop} (rl : Rl C G m H st) (en : EnvR C G m σ env) (r : Rep C G x d) (h : tg.put d env = some env')
    (k : ∀ σ', Outside tg.slots σ σ' → EnvR C G m σ' env' → Q σ' H) : tg.g C.K x σ H Q := by
  cases tg with
  | nm i =>
    cases h
    refine k _ ⟨by simp, fun j hj => List.getElem?_set_ne (fun z => hj (by rw [z]; exact List.mem_cons_self))⟩ (en.set (.d r) i)
  | tp is =>
    cases r with
    | tup q ra =>
      simp only [Tg.put] at h
      split at h
      · rename_i hl
        cases h
        exact ⟨_, _, rfl, SqT.sub rl.sub q, by rw [ra.length]; exact hl, gAll_of is _ _ σ env Q en ra hl k⟩
      · cases h
    | non => cases h
    | bl => cases h
    | int => cases h
    | str => cases h
    | lst => cases h
abbrev SG (X : Cx) (t : Expr) (tg : Tg) : Prop := PG X t (tg.g X.K)
theorem sg_name {x : Str} (i : Nat) (hN : X.N.Nodup) (hi : X.N[i]? = some x) (hx : Loc X.env.scope x) (hf : X.fn x = true ∨ X.env.scope.names.lookup x = some .local := by first | exact .inl rfl | exact .inr rfl | assumption) : SG X (.Name x pos) (.nm i) := pg_name hN hi hx hf
theorem sg_tup {es : List Expr} {k : Nat} {is : List Nat} (hc : X.calm = true) (h : PGs X es (gAll is)) (hn : (assignEach es X.env).length = is.length := by rfl) (hst : (assignEach es X.env).findIdx? (·.1) = none := by rfl) : SG X (.Tuple es k pos) (.tp is) := pg_tup hc h hn hst
theorem sgs_nil : PGs X [] (gAll []) := pgs_nil
theorem sgs_cons {x : Str} {es : List Expr} (i : Nat) {is : List Nat} (hN : X.N.Nodup) (hi : X.N[i]? = some x) (hx : Loc X.env.scope x) (h2 : PGs X es (gAll is)) (hf : X.fn x = true ∨ X.env.scope.names.lookup x = some .local := by first | exact .inl rfl | exact .inr rfl | assumption)
    (hs : (assignEach (.Name x pos :: es) X.env).map (·.2) = assign (.Name x pos) X.env :: (assignEach es X.env).map (·.2) := by rfl) : PGs X (.Name x pos :: es) (gAll (i :: is)) := pgs_cons (pg_name hN hi hx hf) h2 hs
/-- a, b = e -/
def sSetT (tg : Tg) (e : EE) : ES := fun env st => (e env st).bindS env fun v s => match v with
  | .d d => (match tg.put d env with
    | some env' => .ok (.nx env') s
    | none => .bad)
  | _ => .bad
theorem ss_setT {t : Expr} {tg : Tg} (he : SE cl X W a ea) (hg : SG X t tg) (hs : swapsWithSole [t] a pos.line X.env = pure false := by rfl) (hw : swappedStores [t] a X.env = pure none := by rfl)
    (h1 : (assignEach [t] X.env).map (·.2) = [assign t X.env] := by rfl) : SS cl X W (.Assign [t] a pos) (sSetT tg ea) := (ps_asg he hg hs hw h1).impM fun D σ H h => by
  obtain ⟨G, m, env, st, rl, en, p⟩ := h
  refine ⟨G, m, env, st, rl, en, Post.bindS en p fun v s1 x H1 G1 m1 _ e1 rl1 r1 p1 => ?_⟩
  split at p1
  · split at p1
    · rename_i env' e
      cases r1 with
      | d r => exact Tg.g_of rl1 (en.ext e1) r e fun σ' _ en' => p1 σ' H1 G1 m1 (Ext.refl _ _ _) rl1 en'
    · exact p1.elim
  · exact p1.elim
/-- a, b = x, y -/
def setVs : List Nat → List Val → Ev → Ev
  | i :: is, x :: xs, env => setVs is xs (env.set i (some x))
  | _, _, env => env
def sParN (is : List Nat) (ea : EA) : ES := fun env st => (ea env st).bindS env fun vs s => if vs.length = is.length then .ok (.nx (setVs is vs env)) s else .bad
theorem ss_par {x y : Str} {er : EA} {px py pt : Pos} {kt k2 : Nat} {pt2 : Pos} (i j : Nat) (hc : X.calm = true) (hN : X.N.Nodup) (hi : X.N[i]? = some x) (hj : X.N[j]? = some y) (hij : i ≠ j)
    (hx : X.env.scope.names.lookup x = some .local) (hy : X.env.scope.names.lookup y = some .local) (ha : SA cl X W [a, b] er)
    (hw : swappedStores [.Tuple [.Name x px, .Name y py] kt pt] (.Tuple [a, b] k2 pt2) X.env = pure (some [x, y]))
    (hs : swapsWithSole [.Tuple [.Name x px, .Name y py] kt pt] (.Tuple [a, b] k2 pt2) pos.line X.env = pure false := by rfl) :
    SS cl X W (.Assign [.Tuple [.Name x px, .Name y py] kt pt] (.Tuple [a, b] k2 pt2) pos) (sParN [i, j] er) := (ps_par hc hN hi hj hij hx hy ha hw hs).impM fun D σ H h => by
  obtain ⟨G, m, env, st, rl, en, p⟩ := h
  refine ⟨G, m, env, st, rl, en, Post.bindS en p fun v s1 x H1 G1 m1 _ e1 rl1 r1 p1 => ?_⟩
  split at p1
  · rename_i hl
    match v, hl with
    | [w1, w2], _ =>
      obtain ⟨v1, v2, rfl, q1, q2⟩ := repVs2 r1
      exact ⟨v1, v2, rfl, p1 _ H1 G1 m1 (Ext.refl _ _ _) rl1 (((en.ext e1).set q1 i).set q2 j)⟩
  · exact p1.elim
end
end Mi
end

section
set_option maxRecDepth 100000
set_option autoImplicit false
namespace Mi
open PySem PySem.Spec L2

/-! ### what is walked -/
abbrev EI := Ev → Sto → R (List D)
structure Iters (C : RC) (G : Hp) (J : It) (xs : List D) : Prop where
  go : ∀ {G1 : Hp} {m1 : List Addr} {H : Hp} {st1 : Sto} {i : Nat}, Sub G G1 → Rl C G1 m1 H st1 → i < xs.length → J.go i H
  yld : ∀ {G1 : Hp} {m1 : List Addr} {H : Hp} {st1 : Sto} {i : Nat} {x : V} {H' : Hp} {d : D}, Sub G G1 → Rl C G1 m1 H st1 → J.yld i H x H' → xs[i]? = some d → ∃ G2, Ext G1 m1 H G2 m1 H' ∧ Rl C G2 m1 H' st1 ∧ Rep C G2 x d
  stop : ∀ {G1 : Hp} {m1 : List Addr} {H : Hp} {st1 : Sto} {i : Nat}, Sub G G1 → Rl C G1 m1 H st1 → xs.length ≤ i → J.stop i H
def relI (C : RC) (G : Hp) (_ : List Addr) (J : It) (xs : List D) : Prop := Iters C G J xs
def tI (C : RC) (W : WX) (ei : EI) : TI := fun σ H Q => ∃ G m env st, Rl C G m H st ∧ EnvR C G m σ env ∧ Post C (relI C) G m H Q (fun c d H' => W c d σ H') (ei env st)
abbrev SI (cl : Nat → Addr) (X : Cx) (W : WX) (t iter : Expr) (ei : EI) : Prop := PI X t iter (tI (rc X cl) W ei)
theorem iters_list {C : RC} {G : Hp} {a : Addr} {vs : List V} {xs : List D} (h : G a = some (.lst vs)) (r : RepAll C G vs xs) : Iters C G (Itl C.K a) xs where
  go := fun {G1 m1 H st1 i} s rl hi => by
    have q : SqL C.K H a vs := SqL.of (rl.sub _ _ (s _ _ h))
    have e : xs[i]? = some xs[i] := List.getElem?_eq_getElem hi
    obtain ⟨v, hv, _⟩ := r.get e
    exact ⟨vs, v, q, hv⟩
  yld := fun {G1 m1 H st1 i x H' d} s rl y e => by
    obtain ⟨rfl, y⟩ := y
    obtain ⟨v, hv, rv⟩ := r.get e
    have z := y vs (SqL.of (rl.sub _ _ (s _ _ h)))
    rw [hv] at z
    cases z
    exact ⟨G1, Ext.refl _ _ _, rl, rv.sub s⟩
  stop := fun {G1 m1 H st1 i} s rl hi => ⟨vs, SqL.of (rl.sub _ _ (s _ _ h)), by rw [r.length]; exact hi⟩
theorem iters_tup {X : Cx} {cl : Nat → Addr} {pins : List (Addr × Obj)} {σ : L2.St} {H0 : Hp} {s0 : Shared} {G : Hp} {a : Addr} {vs : List V} {xs : List D} (h : SqT X.K G a vs) (r : RepAll (rc X cl) G vs xs) (inj : ∀ {H : Hp} {ys zs : List V}, SqT X.K H a ys → SqT X.K H a zs → ys = zs) : Iters (rc X cl) G (Itt X.K a) xs where
  go := fun {G1 m1 H st1 i} s rl hi => by
    have q : SqT X.K H a vs := SqT.sub (s.trans rl.sub) h
    obtain ⟨v, hv, _⟩ := r.get (List.getElem?_eq_getElem hi)
    exact ⟨vs, v, q, hv⟩
  yld := fun {G1 m1 H st1 i x H' d} s rl y e => by
    obtain ⟨rfl, y⟩ := y
    obtain ⟨v, hv, rv⟩ := r.get e
    have z := y vs (SqT.sub (s.trans rl.sub) h)
    rw [hv] at z
    cases z
    exact ⟨G1, Ext.refl _ _ _, rl, rv.sub s⟩
  stop := fun {G1 m1 H st1 i} s rl hi => ⟨vs, SqT.sub (s.trans rl.sub) h, by rw [r.length]; exact hi⟩
theorem iters_range {C : RC} {G : Hp} (lo : Int) (n : Nat) : Iters C G (Itr lo n) ((List.range n).map fun k => PyData.int (lo + (k : Nat))) where
  go := fun {G1 m1 H st1 i} s rl hi => by simpa [Itr] using hi
  yld := fun {G1 m1 H st1 i x H' d} s rl y e => by
    obtain ⟨rfl, rfl⟩ := y
    have : d = .int (lo + i) := by
      rw [List.getElem?_map] at e
      cases q : (List.range n)[i]? with
      | none => rw [q] at e; cases e
      | some k =>
        rw [q] at e
        have := List.getElem?_range (n := n) (i := i)
        obtain ⟨hl, z⟩ := List.getElem?_eq_some_iff.mp q
        rw [List.getElem_range] at z
        subst z
        cases e; rfl
    subst this
    exact ⟨G1, Ext.refl _ _ _, rl, .int _⟩
  stop := fun {G1 m1 H st1 i} s rl hi => by simpa [Itr] using hi
/-- two side by side -/
def zipD (xs ys : List D) : List D := List.zipWith (fun x y => PyData.tuple [x, y]) xs ys
theorem zipD_get {xs ys : List D} {i : Nat} {d : D} (h : (zipD xs ys)[i]? = some d) : ∃ x y, xs[i]? = some x ∧ ys[i]? = some y ∧ d = .tuple [x, y] := by
  unfold zipD at h
  rw [List.getElem?_zipWith] at h
  cases e1 : xs[i]? with
  | none => rw [e1] at h; simp at h
  | some x =>
    cases e2 : ys[i]? with
    | none => rw [e1, e2] at h; simp at h
    | some y => rw [e1, e2] at h; simp at h; exact ⟨x, y, rfl, rfl, h.symm⟩
theorem iters_zipL {C : RC} {G : Hp} {a b : Addr} {vs us : List V} {xs ys : List D} (ha : G a = some (.lst vs)) (hb : G b = some (.lst us)) (ra : RepAll C G vs xs) (rb : RepAll C G us ys) : Iters C G (Itz C.K a b) (zipD xs ys) where
  go := fun {G1 m1 H st1 i} s rl hi => by
    obtain ⟨x, y, e1, e2, _⟩ := zipD_get (List.getElem?_eq_getElem hi)
    obtain ⟨v, hv, _⟩ := ra.get e1
    obtain ⟨u, hu, _⟩ := rb.get e2
    exact ⟨vs, us, v, u, SqL.of (rl.sub _ _ (s _ _ ha)), SqL.of (rl.sub _ _ (s _ _ hb)), hv, hu⟩
  yld := fun {G1 m1 H st1 i x H' d} s rl y e => by
    obtain ⟨T, x1, y1, rfl, hT, rfl, q1, q2⟩ := y
    obtain ⟨x, y, e1, e2, rfl⟩ := zipD_get e
    obtain ⟨v, hv, rv⟩ := ra.get e1
    obtain ⟨u, hu, ru⟩ := rb.get e2
    have z1 := q1 vs (SqL.of (rl.sub _ _ (s _ _ ha)))
    have z2 := q2 us (SqL.of (rl.sub _ _ (s _ _ hb)))
    rw [hv] at z1; rw [hu] at z2
    cases z1; cases z2
    obtain ⟨r2, ex⟩ := rl.laid hT (.tup [x1, y1])
    exact ⟨_, ex, r2, .tup (SqT.of upd_same) (.cons ((rv.sub s).sub ex.sub) (.cons ((ru.sub s).sub ex.sub) .nil))⟩
  stop := fun {G1 m1 H st1 i} s rl hi => by
    refine ⟨vs, us, SqL.of (rl.sub _ _ (s _ _ ha)), SqL.of (rl.sub _ _ (s _ _ hb)), ?_⟩
    have : (zipD xs ys).length = min xs.length ys.length := by simp [zipD]
    rw [ra.length, rb.length]; omega
theorem iters_zipT {C : RC} {G : Hp} {a b : Addr} {vs us : List V} {xs ys : List D} (ha : SqT C.K G a vs) (hb : SqT C.K G b us) (ra : RepAll C G vs xs) (rb : RepAll C G us ys) : Iters C G (RZ.ItzT C.K a b) (zipD xs ys) where
  go := fun {G1 m1 H st1 i} s rl hi => by
    obtain ⟨x, y, e1, e2, _⟩ := zipD_get (List.getElem?_eq_getElem hi)
    obtain ⟨v, hv, _⟩ := ra.get e1
    obtain ⟨u, hu, _⟩ := rb.get e2
    exact ⟨vs, us, v, u, SqT.sub (s.trans rl.sub) ha, SqT.sub (s.trans rl.sub) hb, hv, hu⟩
  yld := fun {G1 m1 H st1 i x H' d} s rl y e => by
    obtain ⟨T, x1, y1, rfl, hT, rfl, q1, q2⟩ := y
    obtain ⟨x, y, e1, e2, rfl⟩ := zipD_get e
    obtain ⟨v, hv, rv⟩ := ra.get e1
    obtain ⟨u, hu, ru⟩ := rb.get e2
    have z1 := q1 vs (SqT.sub (s.trans rl.sub) ha)
    have z2 := q2 us (SqT.sub (s.trans rl.sub) hb)
    rw [hv] at z1; rw [hu] at z2
    cases z1; cases z2
    obtain ⟨r2, ex⟩ := rl.laid hT (.tup [x1, y1])
    exact ⟨_, ex, r2, .tup (SqT.of upd_same) (.cons ((rv.sub s).sub ex.sub) (.cons ((ru.sub s).sub ex.sub) .nil))⟩
  stop := fun {G1 m1 H st1 i} s rl hi => by
    refine ⟨vs, us, SqT.sub (s.trans rl.sub) ha, SqT.sub (s.trans rl.sub) hb, ?_⟩
    have : (zipD xs ys).length = min xs.length ys.length := by simp [zipD]
    rw [ra.length, rb.length]; omega
def enumD : Nat → List D → List D
  | _, [] => []
  | k, x :: xs => .tuple [.int (k : Nat), x] :: enumD (k + 1) xs
theorem enumD_get : ∀ {xs : List D} {k i : Nat} {d : D}, (enumD k xs)[i]? = some d → ∃ x, xs[i]? = some x ∧ d = .tuple [.int ((k + i : Nat) : Int), x]
  | [], _, _, _, h => by simp [enumD] at h
  | x :: xs, k, 0, d, h => by simp [enumD] at h; exact ⟨x, rfl, by rw [← h]; rfl⟩
  | x :: xs, k, i + 1, d, h => by
    simp only [enumD, List.getElem?_cons_succ] at h
    obtain ⟨y, h1, h2⟩ := enumD_get h
    exact ⟨y, by simpa using h1, by rw [h2, show k + 1 + i = k + (i + 1) by omega]⟩
theorem enumD_length : ∀ (xs : List D) (k : Nat), (enumD k xs).length = xs.length
  | [], _ => rfl
  | _ :: xs, k => by simp [enumD, enumD_length xs]
theorem iters_enum {C : RC} {G : Hp} {a : Addr} {vs : List V} {xs : List D} (h : G a = some (.lst vs)) (r : RepAll C G vs xs) : Iters C G (Ite C.K a) (enumD 0 xs) where
  go := fun {G1 m1 H st1 i} s rl hi => by
    rw [enumD_length] at hi
    obtain ⟨v, hv, _⟩ := r.get (List.getElem?_eq_getElem hi)
    exact ⟨vs, v, SqL.of (rl.sub _ _ (s _ _ h)), hv⟩
  yld := fun {G1 m1 H st1 i x H' d} s rl y e => by
    obtain ⟨T, x1, rfl, hT, rfl, q1⟩ := y
    obtain ⟨x, e1, rfl⟩ := enumD_get e
    obtain ⟨v, hv, rv⟩ := r.get e1
    have z1 := q1 vs (SqL.of (rl.sub _ _ (s _ _ h)))
    rw [hv] at z1
    cases z1
    obtain ⟨r2, ex⟩ := rl.laid hT (.tup [.int (i : Nat), x1])
    refine ⟨_, ex, r2, .tup (SqT.of upd_same) (.cons ?_ (.cons ((rv.sub s).sub ex.sub) .nil))⟩
    rw [Nat.zero_add]; exact .int _
  stop := fun {G1 m1 H st1 i} s rl hi => by
    rw [enumD_length] at hi
    exact ⟨vs, SqL.of (rl.sub _ _ (s _ _ h)), by rw [r.length]; exact hi⟩
section
variable {cl : Nat → Addr} {X : Cx} {W : WX} {pos p tpos : Pos} {t a b : Expr} {ea eb : EE}
theorem _root_.L2.PI.impM {iter : Expr} {w w' : TI} (h : PI X t iter w) (i : ∀ σ H Q, w' σ H Q → w σ H Q) : PI X t iter w' := ⟨fun pins s σ H Q I q => h.run pins s σ H Q I (i _ _ _ q)⟩
theorem pi_or {iter : Expr} {w w' : TI} (h : PI X t iter w) (h' : PI X t iter w') : PI X t iter (fun σ H Q => w σ H Q ∨ w' σ H Q) := ⟨fun pins s σ H Q I q => q.elim (h.run pins s σ H Q I) (h'.run pins s σ H Q I)⟩
/-- a list or a tuple that stays as it is -/
def iSeq (e : EE) : EI := fun env st => (e env st).bind fun v s => match v with
  | .d (.list xs) => .ok xs s
  | .d (.tuple xs) => .ok xs s
  | _ => .bad
theorem si_seq (he : SE cl X W a ea) : SI cl X W t a (iSeq ea) := by
  refine (pi_or (pi_list he) (pi_tup he)).impM fun σ H Q h => ?_
  obtain ⟨G, m, env, st, rl, en, p⟩ := h
  have hp := p
  unfold iSeq at p
  cases e : ea env st with
  | bad => rw [e] at p; exact p.elim
  | exc x s => exact .inl ⟨G, m, env, st, rl, en, by rw [e] at p ⊢; exact p⟩
  | ok v s =>
    rw [e] at p
    simp only [R.bind_ok] at p
    split at p
    · refine .inl ⟨G, m, env, st, rl, en, ?_⟩
      rw [e]
      intro x H1 G1 m1 e1 rl1 r1
      cases r1 with
      | d r =>
        cases r with
        | lst g ra => exact ⟨_, rfl, ⟨_, SqL.of (rl1.sub _ _ g)⟩, p _ H1 G1 m1 e1 rl1 (iters_list g ra)⟩
    · refine .inr ⟨G, m, env, st, rl, en, ?_⟩
      rw [e]
      intro x H1 G1 m1 e1 rl1 r1
      cases r1 with
      | d r =>
        cases r with
        | tup g ra =>
          refine ⟨_, rfl, ⟨_, SqT.sub rl1.sub g⟩, p _ H1 G1 m1 e1 rl1 ⟨fun {G2 m2 H2 st2 i} s rl2 hi => ?_, fun {G2 m2 H2 st2 i y H3 d} s rl2 yy e2 => ?_, fun {G2 m2 H2 st2 i} s rl2 hi => ?_⟩⟩
          · obtain ⟨v, hv, _⟩ := ra.get (List.getElem?_eq_getElem hi)
            exact ⟨_, v, SqT.sub (s.trans rl2.sub) g, hv⟩
          · obtain ⟨rfl, yy⟩ := yy
            obtain ⟨v, hv, rv⟩ := ra.get e2
            have z := yy _ (SqT.sub (s.trans rl2.sub) g)
            rw [hv] at z
            cases z
            exact ⟨G2, Ext.refl _ _ _, rl2, rv.sub s⟩
          · exact ⟨_, SqT.sub (s.trans rl2.sub) g, by rw [ra.length]; exact hi⟩
    · exact p.elim
def iRange (a : EA) : EI := fun env st => (a env st).bind fun vs s => match vs with
  | [.d (.int n)] => if -(2 ^ 62) ≤ n ∧ n ≤ 1000000 then .ok ((List.range n.toNat).map fun k => PyData.int (0 + (k : Nat))) s else .bad
  | _ => .bad
theorem si_range {er : EA} (hg : Gl X "range") (hm : X.mg "range" = none) (ha : SA cl X W [a] er) (hs : starEach [a] X.env = [(false, eval a X.env)] := by rfl) : SI cl X W t (.Call (.Name "range" p) [a] [] pos) (iRange er) :=
  (pi_range1 hg hm ha hs).impM fun σ H Q h => by
    obtain ⟨G, m, env, st, rl, en, p⟩ := h
    refine ⟨G, m, env, st, rl, en, Post.bindE p fun v s1 x H1 G1 m1 e0 e1 rl1 r1 p1 => ?_⟩
    split at p1
    · rename_i n
      split at p1
      · rename_i hn
        obtain ⟨v1, rfl, q1⟩ := repVs1 r1
        cases q1 with
        | d q1 => cases q1; exact ⟨_, rfl, hn.1, by omega, p1 _ H1 G1 m1 (Ext.refl _ _ _) rl1 (iters_range 0 _)⟩
      · exact p1.elim
    · exact p1.elim
def zipOf (vs : List Val) : Option (List D) := match vs with
  | [.d (.list xs), .d (.list ys)] => some (zipD xs ys)
  | [.d (.tuple xs), .d (.tuple ys)] => some (zipD xs ys)
  | _ => none
def iZip (a : EA) : EI := fun env st => (a env st).bind fun vs s => match zipOf vs with
  | some xs => .ok xs s
  | none => .bad
theorem si_zip {er : EA} {elts : List Expr} {kk : Nat} (hg : Gl X "zip") (hm : X.mg "zip" = none) (ha : SA cl X W [a, b] er) (hs : starEach [a, b] X.env = (false, eval a X.env) :: starEach [b] X.env := by rfl) (hpl : (backTo pos (starEach [b] X.env)).any (·.1) = false := by rfl) :
    SI cl X W (.Tuple elts kk tpos) (.Call (.Name "zip" p) [a, b] [] pos) (iZip er) := (RZ.pi_zipA hg hm ha hs hpl).impM fun σ H Q h => by
  obtain ⟨G, m, env, st, rl, en, p⟩ := h
  refine ⟨G, m, env, st, rl, en, Post.bindE p fun v s1 x H1 G1 m1 e0 e1 rl1 r1 p1 => ?_⟩
  unfold zipOf at p1
  split at p1
  · rename_i xs e
    split at e
    · obtain ⟨v1, v2, rfl, q1, q2⟩ := repVs2 r1
      cases e
      cases q1 with
      | d q1 =>
        cases q2 with
        | d q2 =>
          cases q1 with
          | lst g1 a1 =>
            cases q2 with
            | lst g2 a2 => exact ⟨_, _, _, _, rfl, .inl ⟨SqL.of (rl1.sub _ _ g1), SqL.of (rl1.sub _ _ g2), p1 _ H1 G1 m1 (Ext.refl _ _ _) rl1 (iters_zipL g1 g2 a1 a2)⟩⟩
    · obtain ⟨v1, v2, rfl, q1, q2⟩ := repVs2 r1
      cases e
      cases q1 with
      | d q1 =>
        cases q2 with
        | d q2 =>
          cases q1 with
          | tup g1 a1 =>
            cases q2 with
            | tup g2 a2 => exact ⟨_, _, _, _, rfl, .inr ⟨SqT.sub rl1.sub g1, SqT.sub rl1.sub g2, p1 _ H1 G1 m1 (Ext.refl _ _ _) rl1 (iters_zipT g1 g2 a1 a2)⟩⟩
    · cases e
  · exact p1.elim
def iEnum' (a : EA) : EI := fun env st => (a env st).bind fun vs s => match vs with
  | [.d (.list xs)] => .ok (enumD 0 xs) s
  | _ => .bad
theorem si_enum {er : EA} {elts : List Expr} {kk : Nat} (hg : Gl X "enumerate") (hm : X.mg "enumerate" = none) (ha : SA cl X W [a] er) (hs : starEach [a] X.env = [(false, eval a X.env)] := by rfl) :
    SI cl X W (.Tuple elts kk tpos) (.Call (.Name "enumerate" p) [a] [] pos) (iEnum' er) := (pi_enum hg hm ha hs).impM fun σ H Q h => by
  obtain ⟨G, m, env, st, rl, en, p⟩ := h
  refine ⟨G, m, env, st, rl, en, Post.bindE p fun v s1 x H1 G1 m1 e0 e1 rl1 r1 p1 => ?_⟩
  split at p1
  · obtain ⟨v1, rfl, q1⟩ := repVs1 r1
    cases q1 with
    | d q1 =>
      cases q1 with
      | lst g1 a1 => exact ⟨_, _, rfl, SqL.of (rl1.sub _ _ g1), p1 _ H1 G1 m1 (Ext.refl _ _ _) rl1 (iters_enum g1 a1)⟩
  · exact p1.elim

/-! ### for, while -/
def forL (tg : Tg) (body : ES) : List D → Ev → Sto → R Fl
  | [], env, st => .ok (.nx env) st
  | x :: xs, env, st => match tg.put x env with
    | none => .bad
    | some e1 => match body e1 st with
      | .ok (.nx e) s => forL tg body xs e s
      | .ok (.ct e) s => forL tg body xs e s
      | .ok (.bk e) s => .ok (.nx e) s
      | r => r
def sFor (tg : Tg) (ei : EI) (body : ES) : ES := fun env st => (ei env st).bindS env fun xs s => forL tg body xs env s
theorem ss_for {tg : Tg} {ei : EI} {body : List Stmt} {eb : ES} (hp : PassesOwn (model X.prog X.w) X.A X.env X.xe) (hc : X.calm = true) (hi : SI cl X W t a ei) (hg : SG X t tg) (hb : SSs cl X W body eb) (hs : ∀ x, foldedSetIterable a X.env x = pure x := by intro _; rfl) :
    SS cl X W (.For t a body [] pos) (sFor tg ei eb) := (ps_for hp hc hi hg hb hs).impM fun D σ H h => by
  obtain ⟨G, m, env, st, rl, en, p⟩ := h
  refine ⟨G, m, env, st, rl, en, Post.bindS en p fun xs s1 J H1 G1 m1 e0 e1 rl1 it p1 => ?_⟩
  refine ⟨fun i mm σ2 H2 => mm = xs.length - i ∧ i ≤ xs.length ∧ ∃ G2 m2 env2 st2, Sub G1 G2 ∧ Rl (rc X cl) G2 m2 H2 st2 ∧ EnvR (rc X cl) G2 m2 σ2 env2 ∧ PostS (rc X cl) G2 m2 H2 D W (forL tg eb (xs.drop i) env2 st2), ⟨xs.length, by simp, Nat.zero_le _, G1, m1, env, s1, Sub.refl _, rl1, en.ext e1, by simpa using p1⟩, ?_⟩
  rintro i mm σ2 H2 ⟨rfl, hi, G2, m2, env2, st2, sb, rl2, en2, q⟩
  by_cases hlt : i < xs.length
  · refine .inr ⟨Iters.go it sb rl2 hlt, fun σ3 H3 => ∃ G3 m3 env3 st3, Sub G1 G3 ∧ Rl (rc X cl) G3 m3 H3 st3 ∧ EnvR (rc X cl) G3 m3 σ3 env3 ∧ PostS (rc X cl) G3 m3 H3 D W (forL tg eb (xs.drop (i + 1)) env3 st3), fun σ3 H3 ⟨G3, m3, env3, st3, a1, a2, a3, a4⟩ => ⟨xs.length - (i + 1), by omega, rfl, hlt, G3, m3, env3, st3, a1, a2, a3, a4⟩, fun x H3 y => ?_⟩
    have ei : xs[i]? = some xs[i] := List.getElem?_eq_getElem hlt
    obtain ⟨G3, ex3, rl3, rx⟩ := Iters.yld it sb rl2 y ei
    rw [List.drop_eq_getElem_cons hlt] at q
    simp only [forL] at q
    split at q
    · exact q.elim
    · rename_i env3 e3
      refine Tg.g_of rl3 (en2.ext ex3) rx e3 fun σ4 _ en4 => ⟨G3, m2, env3, st2, rl3, en4, ?_⟩
      have q2 := PostS.ext ex3 q
      cases eb1 : eb env3 st2 with
      | bad => rw [eb1] at q2; exact q2
      | exc e s => rw [eb1] at q2; exact q2
      | ok f s =>
        rw [eb1] at q2
        cases f with
        | nx e => exact fun σ5 H5 G5 m5 ex5 rl5 en5 => ⟨G5, m5, e, s, (sb.trans ex3.sub).trans ex5.sub, rl5, en5, PostS.ext ex5 q2⟩
        | ct e => exact fun σ5 H5 G5 m5 ex5 rl5 en5 => ⟨G5, m5, e, s, (sb.trans ex3.sub).trans ex5.sub, rl5, en5, PostS.ext ex5 q2⟩
        | bk e => exact q2
        | rt v => exact q2
        | ex v w => exact q2
  · have e : i = xs.length := by omega
    subst e
    refine .inl ⟨Iters.stop it sb rl2 (Nat.le_refl _), ?_⟩
    rw [List.drop_length] at q
    exact q σ2 H2 G2 m2 (Ext.refl _ _ _) rl2 en2
def whileL (t : ET) (body : ES) : Nat → Ev → Sto → R Fl
  | 0, _, _ => .bad
  | n + 1, env, st => (t env st).bindS env fun b s => match b with
    | false => .ok (.nx env) s
    | true => match body env s with
      | .ok (.nx e) s => whileL t body n e s
      | .ok (.ct e) s => whileL t body n e s
      | .ok (.bk e) s => .ok (.nx e) s
      | r => r
def sWhile (n : Nat) (t : ET) (body : ES) : ES := whileL t body n
theorem ss_while {n : Nat} {c : Expr} {tc : ET} {body : List Stmt} {eb : ES} (hp : PassesOwn (model X.prog X.w) X.A X.env X.xe) (hc : ST cl X W c tc) (hb : SSs cl X W body eb) : SS cl X W (.While c body [] pos) (sWhile n tc eb) := (ps_while hp hc hb).impM fun D σ H h => by
  obtain ⟨G, m, env, st, rl, en, p⟩ := h
  refine ⟨fun k σ2 H2 => ∃ G2 m2 env2 st2, Rl (rc X cl) G2 m2 H2 st2 ∧ EnvR (rc X cl) G2 m2 σ2 env2 ∧ PostS (rc X cl) G2 m2 H2 D W (whileL tc eb k env2 st2), ⟨n, G, m, env, st, rl, en, p⟩, ?_⟩
  rintro k σ2 H2 ⟨G2, m2, env2, st2, rl2, en2, q⟩
  cases k with
  | zero => exact q.elim
  | succ k =>
    refine ⟨G2, m2, env2, st2, rl2, en2, Post.bindS en2 q fun b s1 x H1 G1 m1 e0 e1 rl1 r1 p1 => ?_⟩
    cases (show x = b from r1)
    cases b with
    | false => rw [if_neg (by decide)]; exact p1 σ2 H1 G1 m1 (Ext.refl _ _ _) rl1 (en2.ext e1)
    | true =>
      rw [if_pos rfl]
      refine ⟨fun σ3 H3 => ∃ G3 m3 env3 st3, Rl (rc X cl) G3 m3 H3 st3 ∧ EnvR (rc X cl) G3 m3 σ3 env3 ∧ PostS (rc X cl) G3 m3 H3 D W (whileL tc eb k env3 st3), fun σ3 H3 z => ⟨k, Nat.lt_succ_self _, z⟩, G1, m1, env2, s1, rl1, en2.ext e1, ?_⟩
      simp only at p1
      cases eb1 : eb env2 s1 with
      | bad => rw [eb1] at p1; exact p1
      | exc e s => rw [eb1] at p1; exact p1
      | ok f s =>
        rw [eb1] at p1
        cases f with
        | nx e => exact fun σ5 H5 G5 m5 ex5 rl5 en5 => ⟨G5, m5, e, s, rl5, en5, PostS.ext ex5 p1⟩
        | ct e => exact fun σ5 H5 G5 m5 ex5 rl5 en5 => ⟨G5, m5, e, s, rl5, en5, PostS.ext ex5 p1⟩
        | bk e => exact p1
        | rt v => exact p1
        | ex v w => exact p1
end
end Mi
end

section
set_option maxRecDepth 100000
set_option autoImplicit false
namespace Mi
open PySem PySem.Spec L2

theorem RepVs.grow {C : RC} {G : Hp} {m m' : List Addr} (pre : ∀ (i : Nat) (a : Addr), m[i]? = some a → m'[i]? = some a) : ∀ {vs : List V} {xs : List Val}, RepVs C G m vs xs → RepVs C G m' vs xs
  | _, _, .nil => .nil
  | _, _, .cons h r => by
    refine .cons ?_ (RepVs.grow pre r)
    cases h with
    | d h => exact .d h
    | r h => exact .r (pre _ _ h)
    | s h => exact .s h
theorem RepVs.subG {C : RC} {G G' : Hp} {m : List Addr} (sb : Sub G G') : ∀ {vs : List V} {xs : List Val}, RepVs C G m vs xs → RepVs C G' m vs xs
  | _, _, .nil => .nil
  | _, _, .cons h r => by
    refine .cons ?_ (RepVs.subG sb r)
    cases h with
    | d h => exact .d (h.sub sb)
    | r h => exact .r h
    | s h => exact .s (SqL.sub sb h)
/-! ### an object at the side: neither frozen nor of the store -/
section
variable {C : RC} {G : Hp} {m : List Addr} {H : Hp} {st : Sto} {p : Addr}
theorem Rl.side (r : Rl C G m H st) (hm : p ∉ m) (hg : G p = none) (o : HO) : Rl C G m (upd H p o) st := by
  have ne : ∀ a ∈ m, a ≠ p := fun a ha e => hm (e ▸ ha)
  refine ⟨fun a u e => ?_, r.len, r.nd, fun a ha => by rw [upd_ne (ne a ha)]; exact r.liv a ha, r.out, fun i u a e1 e2 => ?_⟩
  · rw [upd_ne (fun z => by subst z; rw [hg] at e; cases e)]; exact r.sub _ _ e
  · exact (r.obj i u a e1 e2).mono (Ext.refl G m H) fun z q => by rw [upd_ne (ne a (List.mem_of_getElem? e2))]; exact q
/-- from a state in which p was free -/
theorem Ext.side {G' : Hp} {m' : List Addr} {H' : Hp} (e : Ext G m H G' m' H') (hp : H p = none) (o : HO) : Ext G m H G' m' (upd H' p o) :=
  ⟨e.sub, e.pre, fun a u q hm => by rw [upd_ne (ne_of_none q hp)]; exact e.frm a u q hm, e.new, e.gn⟩
theorem Rl.laySide {G0 : Hp} {m0 : List Addr} {H0 : Hp} (r : Rl C G m H st) (e : Ext G0 m0 H0 G m H) (h0 : H0 p = none) (hm : p ∉ m) (hg : G p = none) {o : HO} (hp : H p = some o) : Rl C (upd G p o) m H st ∧ Ext G0 m0 H0 (upd G p o) m H ∧ Sub G (upd G p o) := by
  have ne : ∀ a ∈ m, a ≠ p := fun a ha e => hm (e ▸ ha)
  have sb : Sub G (upd G p o) := Sub.upd hg
  refine ⟨⟨fun a u e => ?_, r.len, r.nd, r.liv, fun i a u e1 e2 e3 => ?_, fun i u a e1 e2 => ?_⟩, ⟨e.sub.trans sb, e.pre, e.frm, e.new, fun a z => ?_⟩, sb⟩
  · by_cases z : a = p
    · subst z; rw [upd_same] at e; cases e; exact hp
    · rw [upd_ne z] at e; exact r.sub _ _ e
  · rw [upd_ne (ne a (List.mem_of_getElem? e1))]; exact r.out i a u e1 e2 e3
  · have q := r.obj i u a e1 e2
    cases u with
    | lst xs => obtain ⟨vs, h1, h2⟩ := q; exact ⟨vs, h1, h2.sub sb⟩
    | dct _ => exact q
    | gone => trivial
    | ins c fs => obtain ⟨dx, vs', h1, h2, h3⟩ := q; exact ⟨dx, vs', h1, h2, h3.subG sb⟩
  · by_cases q : a = p
    · subst q; exact .inr (.inr h0)
    · rw [upd_ne q] at z; exact e.gn a z
theorem Ext.allocSide {G0 : Hp} {m0 : List Addr} {H0 : Hp} (e : Ext G0 m0 H0 G m H) (h0 : H0 p = none) : Ext G0 m0 H0 G (m ++ [p]) H :=
  ⟨e.sub, fun i a q => by have z := e.pre i a q; rw [List.getElem?_append_left (List.getElem?_eq_some_iff.mp z).1]; exact z, e.frm, fun a z => (List.mem_append.mp z).elim (e.new a) fun q => by simp at q; subst q; exact .inr h0, e.gn⟩
theorem Rl.allocSide (r : Rl C G m H st) (hm : p ∉ m) (hg : G p = none) {vs : List V} {ds : List D} (hp : H p = some (.lst vs)) (ra : RepAll C G vs ds) : Rl C G (m ++ [p]) H (st ++ [.lst ds]) := by
  have ne : ∀ a ∈ m, a ≠ p := fun a ha e => hm (e ▸ ha)
  have pre : ∀ (i : Nat) (a : Addr), m[i]? = some a → (m ++ [p])[i]? = some a := fun i a e => by
    rw [List.getElem?_append_left (List.getElem?_eq_some_iff.mp e).1]; exact e
  have cut : ∀ (i : Nat) (a : Addr) (u : MO), (m ++ [p])[i]? = some a → (st ++ [.lst ds])[i]? = some u → (m[i]? = some a ∧ st[i]? = some u) ∨ (a = p ∧ u = .lst ds) := fun i a u e1 e2 => by
    by_cases hi : i < m.length
    · rw [List.getElem?_append_left hi] at e1
      rw [List.getElem?_append_left (by rw [← r.len]; exact hi)] at e2
      exact .inl ⟨e1, e2⟩
    · have h1 : i < (m ++ [p]).length := (List.getElem?_eq_some_iff.mp e1).1
      have h2 : i = m.length := by simp at h1; omega
      subst h2
      rw [List.getElem?_append_right (Nat.le_refl _)] at e1
      rw [r.len, List.getElem?_append_right (Nat.le_refl _)] at e2
      simp at e1 e2
      exact .inr ⟨e1.symm, e2.symm⟩
  refine ⟨r.sub, by simp [r.len], ?_, fun a ha => ?_, fun i a u e1 e2 e3 => ?_, fun i u a e1 e2 => ?_⟩
  · exact List.nodup_append.mpr ⟨r.nd, by simp, fun a ha b hb => by simp at hb; subst hb; exact ne a ha⟩
  · rcases List.mem_append.mp ha with q | q
    · exact r.liv a q
    · simp at q; subst q; rw [hp]; simp
  · rcases cut i a u e1 e2 with ⟨z1, z2⟩ | ⟨z1, z2⟩
    · exact r.out i a u z1 z2 e3
    · subst z1; exact hg
  · rcases cut i a u e2 e1 with ⟨z1, z2⟩ | ⟨z1, z2⟩
    · have q := r.obj i u a z2 z1
      cases u with
      | lst xs => exact q
      | dct _ => exact q
      | gone => trivial
      | ins c fs =>
        obtain ⟨dx, vs', h1, h2, h3⟩ := q
        exact ⟨dx, vs', h1, h2, h3.grow pre⟩
    · subst z1; subst z2; exact ⟨vs, hp, ra⟩
end

theorem stayG {G G' : Hp} {m m' : List Addr} {H H' : Hp} {p : Addr} (e : Ext G m H G' m' H') (hg : G p = none) (hm : p ∉ m) (hH : H p ≠ none) : G' p = none := by
  cases w : G' p with
  | none => rfl
  | some o =>
    rcases e.gn p (by rw [w]; simp) with z | z | z
    · exact absurd hg z
    · exact absurd z hm
    · exact absurd z hH
/-! ### slots of a comprehension's own -/
def wipeE (env : Ev) : List Nat → Ev
  | [] => env
  | v :: vs => (wipeE env vs).set v none
theorem EnvR.setNone {C : RC} {G : Hp} {m : List Addr} {σ : L2.St} {env : Ev} (h : EnvR C G m σ env) (i : Nat) : EnvR C G m (σ.set i none) (env.set i none) := by
  refine ⟨by simpa using h.1, fun j u q => ?_⟩
  by_cases e : i = j
  · subst e
    by_cases hl : i < env.length
    · rw [List.getElem?_set_self hl] at q; cases q
    · rw [List.getElem?_eq_none (by simpa using hl)] at q; cases q
  · rw [List.getElem?_set_ne e] at q ⊢
    exact h.2 j u q
theorem EnvR.wipe {C : RC} {G : Hp} {m : List Addr} {σ : L2.St} {env : Ev} (h : EnvR C G m σ env) : ∀ vs : List Nat, EnvR C G m (L2.wipe σ vs) (wipeE env vs)
  | [] => h
  | v :: vs => (EnvR.wipe h vs).setNone v
theorem wipe_get (σ : L2.St) : ∀ (vs : List Nat) (i : Nat), (L2.wipe σ vs)[i]? = if i ∈ vs then (if i < σ.length then some none else none) else σ[i]?
  | [], i => by simp [L2.wipe]
  | v :: vs, i => by
    show ((L2.wipe σ vs).set v none)[i]? = _
    by_cases e : v = i
    · subst e
      rw [if_pos List.mem_cons_self]
      by_cases hl : v < σ.length
      · rw [if_pos hl, List.getElem?_set_self (by rw [wipe_length]; exact hl)]
      · rw [if_neg hl, List.getElem?_eq_none (by rw [List.length_set, wipe_length]; omega)]
    · rw [List.getElem?_set_ne e, wipe_get σ vs i]
      have : (i ∈ v :: vs) ↔ (i ∈ vs) := by simp [Ne.symm e]
      simp only [this]
theorem wipe_out {σ σ2 : L2.St} {vs sl : List Nat} (o : Outside sl (L2.wipe σ vs) σ2) (h : ∀ i ∈ sl, i ∈ vs) : L2.wipe σ2 vs = L2.wipe σ vs := by
  apply List.ext_getElem?
  intro i
  rw [wipe_get σ2, wipe_get σ]
  have hl : σ2.length = σ.length := by rw [o.1, wipe_length]
  by_cases hi : i ∈ vs
  · rw [if_pos hi, if_pos hi, hl]
  · rw [if_neg hi, if_neg hi, o.2 i (fun z => hi (h i z)), wipe_get, if_neg hi]
theorem wipe_out1 {σ σ2 : L2.St} {vs sl : List Nat} (o : Outside sl σ σ2) (h : ∀ i ∈ sl, i ∈ vs) : L2.wipe σ2 vs = L2.wipe σ vs := by
  apply List.ext_getElem?
  intro i
  rw [wipe_get σ2, wipe_get σ, o.1]
  by_cases hi : i ∈ vs
  · rw [if_pos hi, if_pos hi]
  · rw [if_neg hi, if_neg hi, o.2 i (fun z => hi (h i z))]

/-! ### list comprehensions -/
def noX {α : Type} : R α → R α
  | .exc _ _ => .bad
  | r => r
abbrev WF : WX := fun _ _ _ _ => False
theorem Post.noX {α β : Type} {C : RC} {rel : Hp → List Addr → β → α → Prop} {G : Hp} {m : List Addr} {H : Hp} {Q : β → Hp → Prop} {W : XW} {x : R α} (h : Post C rel G m H Q W (Mi.noX x)) : Post C rel G m H Q (fun _ _ _ => False) x := by
  cases x with
  | ok v s => exact h
  | exc e s => exact h.elim
  | bad => exact h
def kYes : ET := fun _ st => .ok true st
def compL (tg : Tg) (tt : ET) (ee : EE) (env : Ev) : List D → Sto → R (List D)
  | [], st => .ok [] st
  | x :: xs, st => match tg.put x env with
    | none => .bad
    | some e1 => (noX (tt e1 st)).bind fun b s1 => match b with
      | false => compL tg tt ee env xs s1
      | true => (noX (ee e1 s1)).bind fun v s2 => match toD v s2 with
        | some (d, s3) => (compL tg tt ee env xs s3).bind fun ds s4 => .ok (d :: ds) s4
        | none => .bad
abbrev STs (cl : Nat → Addr) (X : Cx) (W : WX) (ifs : List Expr) (ev : ET) : Prop := PTs X ifs (tT (rc X cl) W ev)
section
variable {cl : Nat → Addr} {X : Cx} {W : WX} {pos : Pos} {t a c elt : Expr} {ifs : List Expr} {ei : EI} {tg : Tg} {tt : ET} {ee : EE}
theorem sts_nil : STs cl X W [] kYes := by
  refine ⟨fun pins s σ H Q I h => pts_nil.run pins s σ H Q I ?_⟩
  obtain ⟨G, m, env, st, rl, en, p⟩ := h
  exact p true H G m (Ext.refl _ _ _) rl rfl
theorem sts_one (h : ST cl X W c tt) : STs cl X W [c] tt := pts_one h
theorem R.bind_assoc {α β γ : Type} (x : R α) (f : α → Sto → R β) (g : β → Sto → R γ) : (x.bind f).bind g = x.bind fun a s => (f a s).bind g := by cases x <;> rfl
/-- the loop of one clause, the new list at D -/
theorem lc_ok {vs : List Nat} {σ : L2.St} {env : Ev} {G0 : Hp} {m0 : List Addr} {H0 : Hp} {s0 : Sto} {J : It} {xs : List D} {Q : VK} {fz : List D → Sto → R Val} {D' : Addr} (hsl : ∀ i ∈ tg.slots, i ∈ vs) (it : Iters (rc X cl) G0 J xs) (rl0 : Rl (rc X cl) G0 m0 H0 s0) (en : EnvR (rc X cl) G0 m0 σ env) (hD : H0 D' = none) (hsm : small xs.length = true)
    (p : Post (rc X cl) (RepV (rc X cl)) G0 m0 H0 Q (fun _ _ _ => False) ((compL tg tt ee (wipeE env vs) xs s0).bind fz))
    (hf : ∀ ds st vs' G m H, fz ds st ≠ .bad → Ext G0 m0 H0 G m H → Rl (rc X cl) G m H st → D' ∉ m → G D' = none → H D' = some (.lst vs') → RepAll (rc X cl) G vs' ds → Post (rc X cl) (RepV (rc X cl)) G0 m0 H0 Q (fun _ _ _ => False) (fz ds st) → Q (.ref D') H) :
    ∃ Wv : Nat → Nat → Hp → Prop, (∃ k, Wv 0 k (upd H0 D' (.lst []))) ∧ ∀ i k H, Wv i k H → (J.stop i H ∧ Q (.ref D') H) ∨ (J.go i H ∧ ∃ Nx : Hp → Prop, (∀ H', Nx H' → ∃ k', k' < k ∧ Wv (i + 1) k' H') ∧ ∀ x H', J.yld i H x H' → tg.g X.K x (L2.wipe σ vs) H' fun σ2 H2 => L2.wipe σ2 vs = L2.wipe σ vs ∧
      tT (rc X cl) WF tt σ2 H2 fun b H3 => if b = true then tE (rc X cl) WF ee σ2 H3 fun y H4 => ∃ acc, H4 D' = some (.lst acc) ∧ acc.length < sizeLine ∧ Nx (upd H4 D' (.lst (acc ++ [y]))) else Nx H3) := by
  have line : xs.length < sizeLine := by
    have h := of_decide_eq_true hsm
    rw [sizeLine_eq]; omega
  let St : Nat → Hp → Prop := fun i H => ∃ G m st vs' acc, Ext G0 m0 H0 G m H ∧ Rl (rc X cl) G m H st ∧ D' ∉ m ∧ G D' = none ∧ H D' = some (.lst vs') ∧ RepAll (rc X cl) G vs' acc ∧ acc.length ≤ i ∧
    Post (rc X cl) (RepV (rc X cl)) G0 m0 H0 Q (fun _ _ _ => False) ((compL tg tt ee (wipeE env vs) (xs.drop i) st).bind fun ds s => fz (acc ++ ds) s)
  refine ⟨fun i k H => k = xs.length - i ∧ i ≤ xs.length ∧ St i H, ⟨xs.length, by simp, Nat.zero_le _, G0, m0, s0, [], [], (Ext.refl _ _ _).side hD _, rl0.side (rl0.notin hD) (rl0.freeG hD) _, rl0.notin hD, rl0.freeG hD, upd_same, .nil, Nat.le_refl _, by simpa using p⟩, ?_⟩
  rintro i k H ⟨rfl, hi, G, m, st, vs', acc, ex, rl, hm, hg, hH, ra, hacc, q⟩
  by_cases hlt : i < xs.length
  · refine .inr ⟨Iters.go it ex.sub rl hlt, St (i + 1), fun H' z => ⟨xs.length - (i + 1), by omega, rfl, hlt, z⟩, fun x H1 y => ?_⟩
    obtain ⟨G1, ex1, rl1, rx⟩ := Iters.yld it ex.sub rl y (List.getElem?_eq_getElem hlt)
    have h1D : H1 D' = some (.lst vs') := ex1.frm _ _ hH hm
    rw [List.drop_eq_getElem_cons hlt] at q
    simp only [compL] at q
    split at q
    · exact q.elim
    · rename_i e1 ee1
      have en1 : EnvR (rc X cl) G1 m (L2.wipe σ vs) (wipeE env vs) := ((en.ext ex).ext ex1).wipe vs
      refine Tg.g_of rl1 en1 rx ee1 fun σ2 o2 en2 => ⟨wipe_out o2 hsl, G1, m, e1, st, rl1, en2, ?_⟩
      rw [R.bind_assoc] at q
      have q1 : Post (rc X cl) (RepV (rc X cl)) G0 m0 H0 Q (fun _ _ _ => False) _ := q
      cases et : tt e1 st with
      | bad => rw [et] at q; exact q.elim
      | exc e s => rw [et] at q; exact q.elim
      | ok b s1 =>
        rw [et] at q
        intro b' H2 G2 m2 ex2 rl2 rb
        cases (show b' = b from rb)
        have h2D : H2 D' = some (.lst vs') := ex2.frm _ _ h1D hm
        have hm2 : D' ∉ m2 := fun z => (ex2.new _ z).elim hm (fun w => by rw [h1D] at w; cases w)
        have hg2 : G2 D' = none := stayG (ex1.trans ex2) hg hm (by rw [hH]; simp)
        cases b with
        | false =>
          rw [if_neg (by decide)]
          exact ⟨G2, m2, s1, vs', acc, (ex.trans ex1).trans ex2, rl2, hm2, hg2, h2D, (ra.sub ex1.sub).sub ex2.sub, by omega, q⟩
        | true =>
          rw [if_pos rfl]
          refine ⟨G2, m2, e1, s1, rl2, en2.ext ex2, ?_⟩
          simp only [R.bind_ok, noX] at q
          cases ev : ee e1 s1 with
          | bad => rw [ev] at q; exact q.elim
          | exc e s => rw [ev] at q; exact q.elim
          | ok v s2 =>
            rw [ev] at q
            intro yv H3 G3 m3 ex3 rl3 ry
            simp only [R.bind_ok, noX] at q
            split at q
            · rename_i d s3 ed
              obtain ⟨G4, rl4, ex4, rd⟩ := toD_rep rl3 ry ed
              have h3D : H3 D' = some (.lst vs') := ex3.frm _ _ h2D hm2
              have hm3 : D' ∉ m3 := fun z => (ex3.new _ z).elim hm2 (fun w => by rw [h2D] at w; cases w)
              have hg4 : G4 D' = none := stayG (ex3.trans ex4) hg2 hm2 (by rw [h2D]; simp)
              refine ⟨vs', h3D, by rw [ra.length]; omega, G4, m3, s3, vs' ++ [yv], acc ++ [d], ((((ex.trans ex1).trans ex2).trans ex3).trans ex4).side hD _, rl4.side hm3 hg4 _, hm3, hg4, upd_same, ((((ra.sub ex1.sub).sub ex2.sub).sub ex3.sub).sub ex4.sub).append (.cons rd .nil), by simp; omega, ?_⟩
              rw [R.bind_assoc] at q
              simpa [R.bind_ok] using q
            · exact q.elim
  · have e : i = xs.length := by omega
    subst e
    refine .inl ⟨Iters.stop it ex.sub rl (Nat.le_refl _), ?_⟩
    rw [List.drop_length] at q
    simp only [compL, R.bind_ok, List.append_nil] at q
    exact hf acc st vs' G m H (fun z => by rw [z] at q; exact q) ex rl hm hg hH ra q
def eLc (vs : List Nat) (tg : Tg) (ei : EI) (tt : ET) (ee : EE) : EE := fun env st => (ei env st).bind fun xs s => if small xs.length = true then (compL tg tt ee (wipeE env vs) xs s).bind fun ds s2 => .ok (.d (.list ds)) s2 else .bad
/-- a list that may be changed -/
def eLcR (vs : List Nat) (tg : Tg) (ei : EI) (tt : ET) (ee : EE) : EE := fun env st => (ei env st).bind fun xs s => if small xs.length = true then (compL tg tt ee (wipeE env vs) xs s).bind fun ds s2 => .ok (.r s2.length) (s2 ++ [.lst ds]) else .bad
theorem compL_noX (env : Ev) : ∀ (xs : List D) (st : Sto) (e : Exn) (s : Sto), compL tg tt ee env xs st ≠ .exc e s
  | [], st, e, s => by simp [compL]
  | x :: xs, st, e, s => by
    simp only [compL]
    split
    · simp
    · rename_i e1 _
      cases tt e1 st with
      | bad => simp [noX]
      | exc _ _ => simp [noX]
      | ok b s1 =>
        simp only [noX, R.bind_ok]
        cases b with
        | false => exact compL_noX env xs s1 e s
        | true =>
          cases ee e1 s1 with
          | bad => simp [noX]
          | exc _ _ => simp [noX]
          | ok v s2 =>
            simp only [noX, R.bind_ok]
            split
            · rename_i d s3 _
              cases q : compL tg tt ee env xs s3 with
              | ok _ _ => simp
              | bad => simp
              | exc e' s' => exact absurd q (compL_noX env xs s3 e' s')
            · simp
theorem lc_post {vs : List Nat} {σ : L2.St} {H : Hp} {Q : VK} {fz : List D → Sto → R Val} (hfz : ∀ ds s, ∃ v s', fz ds s = .ok v s') (hsl : ∀ i ∈ tg.slots, i ∈ vs)
    (h : tE (rc X cl) W (fun env st => (ei env st).bind fun xs s => if small xs.length = true then (compL tg tt ee (wipeE env vs) xs s).bind fz else .bad) σ H Q)
    (hf : ∀ ds st vs' G0 m0 H0 G m H D', H0 D' = none → Ext G0 m0 H0 G m H → Rl (rc X cl) G m H st → D' ∉ m → G D' = none → H D' = some (.lst vs') → RepAll (rc X cl) G vs' ds → Post (rc X cl) (RepV (rc X cl)) G0 m0 H0 Q (fun _ _ _ => False) (fz ds st) → Q (.ref D') H) :
    tLc (tI (rc X cl) W ei) (tg.g X.K) (tT (rc X cl) WF tt) (tE (rc X cl) WF ee) vs σ H Q := by
  obtain ⟨G, m, env, st, rl, en, p⟩ := h
  refine ⟨G, m, env, st, rl, en, Post.bindE p fun xs s1 J H1 G1 m1 e0 e1 rl1 it p1 => fun D' hD => ?_⟩
  split at p1
  · rename_i hs
    refine lc_ok (fz := fz) hsl it rl1 (en.ext e1) hD hs ?_ fun ds st2 vs' G2 m2 H2 _ ex r2 a1 a2 a3 a4 a5 => hf ds st2 vs' G1 m1 H1 G2 m2 H2 D' hD ex r2 a1 a2 a3 a4 a5
    cases q : compL tg tt ee (wipeE env vs) xs s1 with
    | bad => rw [q] at p1; exact p1
    | exc e s => exact absurd q (compL_noX _ _ _ _ _)
    | ok ds s2 =>
      rw [q] at p1
      obtain ⟨v, s', e⟩ := hfz ds s2
      simp only [R.bind_ok, e] at p1 ⊢
      exact p1
  · exact p1.elim
variable {scope : Scope} {own : List (Str × Nat)}
theorem se_lc (hc : X.calm = true) (hN : X.N.Nodup) (hi : SI cl X W t a ei) (ok : BlkOk X.N X.env.scope scope own) (hg : ∀ (s : Shared) (H : Hp) (C : Addr) (cc : List (Str × Addr)) (fp : List Addr), SG (X.blk s H scope (compEnvC scope cc C X.env) fp) t tg)
    (ht : ∀ (s : Shared) (H : Hp) (C : Addr) (cc : List (Str × Addr)) (fp : List Addr), STs cl (X.blk s H scope (compEnvC scope cc C X.env) fp) WF ifs tt)
    (he : ∀ (s : Shared) (H : Hp) (C : Addr) (cc : List (Str × Addr)) (fp : List Addr), SE cl (X.blk s H scope (compEnvC scope cc C X.env) fp) WF elt ee) (hsl : ∀ i ∈ tg.slots, i ∈ own.map (·.2)) (hs : ∀ x, foldedSetIterable a X.env x = pure x := by intro _; rfl) :
    SE cl X W (.ListComp elt [⟨t, a, ifs, 0⟩] scope pos) (eLc (own.map (·.2)) tg ei tt ee) := (pe_lc hc hN hi ok hg ht he hs).impM fun σ H Q h =>
  lc_post (fun ds s => ⟨_, _, rfl⟩) hsl h fun ds st vs' G0 m0 H0 G m H D' h0 ex rl hm hg hH ra p => by
    obtain ⟨r2, ex2, sb⟩ := rl.laySide ex h0 hm hg hH
    exact p _ H _ m ex2 r2 (.d (.lst upd_same (ra.sub sb)))
theorem se_lcR (hc : X.calm = true) (hN : X.N.Nodup) (hi : SI cl X W t a ei) (ok : BlkOk X.N X.env.scope scope own) (hg : ∀ (s : Shared) (H : Hp) (C : Addr) (cc : List (Str × Addr)) (fp : List Addr), SG (X.blk s H scope (compEnvC scope cc C X.env) fp) t tg)
    (ht : ∀ (s : Shared) (H : Hp) (C : Addr) (cc : List (Str × Addr)) (fp : List Addr), STs cl (X.blk s H scope (compEnvC scope cc C X.env) fp) WF ifs tt)
    (he : ∀ (s : Shared) (H : Hp) (C : Addr) (cc : List (Str × Addr)) (fp : List Addr), SE cl (X.blk s H scope (compEnvC scope cc C X.env) fp) WF elt ee) (hsl : ∀ i ∈ tg.slots, i ∈ own.map (·.2)) (hs : ∀ x, foldedSetIterable a X.env x = pure x := by intro _; rfl) :
    SE cl X W (.ListComp elt [⟨t, a, ifs, 0⟩] scope pos) (eLcR (own.map (·.2)) tg ei tt ee) := (pe_lc hc hN hi ok hg ht he hs).impM fun σ H Q h =>
  lc_post (fun ds s => ⟨_, _, rfl⟩) hsl h fun ds st vs' G0 m0 H0 G m H D' h0 ex rl hm hg hH ra p => by
    refine p _ H G (m ++ [D']) (ex.allocSide h0) (rl.allocSide hm hg hH ra) (.r ?_)
    rw [← rl.len, List.getElem?_append_right (Nat.le_refl _)]; simp
/-- name = [..] -/
theorem ss_setLc {y : Str} {py spos : Pos} (i : Nat) (hc : X.calm = true) (hN : X.N.Nodup) (hy : X.N[i]? = some y) (hyl : X.env.scope.names.lookup y = some .local) (hsw : swapsWith (.ListComp elt [⟨t, a, ifs, 0⟩] scope pos) (some (.Name y py)) spos.line X.env = pure true)
    (hi : SI cl X W t a ei) (ok : BlkOk X.N X.env.scope scope own) (hg : ∀ (s : Shared) (H : Hp) (C : Addr) (cc : List (Str × Addr)) (fp : List Addr), SG (X.blk s H scope (compEnvC scope cc C X.env) fp) t tg)
    (ht : ∀ (s : Shared) (H : Hp) (C : Addr) (cc : List (Str × Addr)) (fp : List Addr), STs cl (X.blk s H scope (compEnvC scope cc C X.env) fp) WF ifs tt)
    (he : ∀ (s : Shared) (H : Hp) (C : Addr) (cc : List (Str × Addr)) (fp : List Addr), SE cl (X.blk s H scope (compEnvC scope cc C X.env) fp) WF elt ee) (hsl : ∀ i ∈ tg.slots, i ∈ own.map (·.2)) (hs : ∀ x, foldedSetIterable a X.env x = pure x := by intro _; rfl) :
    SS cl X W (.Assign [.Name y py] (.ListComp elt [⟨t, a, ifs, 0⟩] scope pos) spos) (sSet i (eLc (own.map (·.2)) tg ei tt ee)) := (ps_setLc hc hN hy hyl hsw hi ok hg ht he hs).impM fun D σ H h => by
  obtain ⟨G, m, env, st, rl, en, p⟩ := h
  refine lc_post (Q := fun x H1 => gName i x σ H1 D.nx) (fun ds s => ⟨_, _, rfl⟩) hsl ⟨G, m, env, st, rl, en, Post.bindS en p fun v s1 x H1 G1 m1 _ e1 rl1 r1 p1 => p1 _ H1 G1 m1 (Ext.refl _ _ _) rl1 ((en.ext e1).set r1 i)⟩ fun ds st vs' G0 m0 H0 G m H D' h0 ex rl hm hg hH ra p => ?_
  obtain ⟨r2, ex2, sb⟩ := rl.laySide ex h0 hm hg hH
  exact p _ H _ m ex2 r2 (.d (.lst upd_same (ra.sub sb)))
theorem ss_setLcR {y : Str} {py spos : Pos} (i : Nat) (hc : X.calm = true) (hN : X.N.Nodup) (hy : X.N[i]? = some y) (hyl : X.env.scope.names.lookup y = some .local) (hsw : swapsWith (.ListComp elt [⟨t, a, ifs, 0⟩] scope pos) (some (.Name y py)) spos.line X.env = pure true)
    (hi : SI cl X W t a ei) (ok : BlkOk X.N X.env.scope scope own) (hg : ∀ (s : Shared) (H : Hp) (C : Addr) (cc : List (Str × Addr)) (fp : List Addr), SG (X.blk s H scope (compEnvC scope cc C X.env) fp) t tg)
    (ht : ∀ (s : Shared) (H : Hp) (C : Addr) (cc : List (Str × Addr)) (fp : List Addr), STs cl (X.blk s H scope (compEnvC scope cc C X.env) fp) WF ifs tt)
    (he : ∀ (s : Shared) (H : Hp) (C : Addr) (cc : List (Str × Addr)) (fp : List Addr), SE cl (X.blk s H scope (compEnvC scope cc C X.env) fp) WF elt ee) (hsl : ∀ i ∈ tg.slots, i ∈ own.map (·.2)) (hs : ∀ x, foldedSetIterable a X.env x = pure x := by intro _; rfl) :
    SS cl X W (.Assign [.Name y py] (.ListComp elt [⟨t, a, ifs, 0⟩] scope pos) spos) (sSet i (eLcR (own.map (·.2)) tg ei tt ee)) := (ps_setLc hc hN hy hyl hsw hi ok hg ht he hs).impM fun D σ H h => by
  obtain ⟨G, m, env, st, rl, en, p⟩ := h
  refine lc_post (Q := fun x H1 => gName i x σ H1 D.nx) (fun ds s => ⟨_, _, rfl⟩) hsl ⟨G, m, env, st, rl, en, Post.bindS en p fun v s1 x H1 G1 m1 _ e1 rl1 r1 p1 => p1 _ H1 G1 m1 (Ext.refl _ _ _) rl1 ((en.ext e1).set r1 i)⟩ fun ds st vs' G0 m0 H0 G m H D' h0 ex rl hm hg hH ra p => ?_
  refine p _ H G (m ++ [D']) (ex.allocSide h0) (rl.allocSide hm hg hH ra) (.r ?_)
  rw [← rl.len, List.getElem?_append_right (Nat.le_refl _)]; simp
end
end Mi
end

section
set_option maxRecDepth 100000
set_option autoImplicit false
namespace Mi
open PySem PySem.Spec L2

/-! ### two clauses -/
def compL2 (tg : Tg) (tt : ET) (ei1 : EI) (vs1 : List Nat) (tg1 : Tg) (tt1 : ET) (ee : EE) (env : Ev) : List D → Sto → R (List D)
  | [], st => .ok [] st
  | x :: xs, st => match tg.put x env with
    | none => .bad
    | some e1 => (noX (tt e1 st)).bind fun b s1 => match b with
      | false => compL2 tg tt ei1 vs1 tg1 tt1 ee env xs s1
      | true => (noX (ei1 e1 s1)).bind fun ys s2 => (compL tg1 tt1 ee (wipeE e1 vs1) ys s2).bind fun ds s3 => (compL2 tg tt ei1 vs1 tg1 tt1 ee env xs s3).bind fun es s4 => .ok (ds ++ es) s4
section
variable {cl : Nat → Addr} {X : Cx} {W : WX} {pos : Pos} {t a t1 a1 c elt : Expr} {ifs ifs1 : List Expr} {ei ei1 : EI} {tg tg1 : Tg} {tt tt1 : ET} {ee : EE}
theorem lc_in {vs1 : List Nat} {σ2 : L2.St} {e1 : Ev} {G0 Gi : Hp} {m0 mi : List Addr} {H0 Hi : Hp} {J : It} {ys : List D} {Q : VK} {K : List D → Sto → R Val} {D' : Addr} {Nx : Hp → Prop} (hsl : ∀ i ∈ tg1.slots, i ∈ vs1) (it : Iters (rc X cl) Gi J ys) (hD : H0 D' = none) (en : EnvR (rc X cl) Gi mi σ2 e1)
    (hK : ∀ l s, Post (rc X cl) (RepV (rc X cl)) G0 m0 H0 Q (fun _ _ _ => False) (K l s) → l.length ≤ 1000000)
    (hNx : ∀ G m H st vs' acc, Ext Gi mi Hi G m H ∨ Sub Gi G → Ext G0 m0 H0 G m H → Rl (rc X cl) G m H st → D' ∉ m → G D' = none → H D' = some (.lst vs') → RepAll (rc X cl) G vs' acc → Post (rc X cl) (RepV (rc X cl)) G0 m0 H0 Q (fun _ _ _ => False) (K acc st) → Nx H)
    {st0 : Sto} {vs0 : List V} {acc0 : List D} (ex0 : Ext G0 m0 H0 Gi mi Hi) (rl0 : Rl (rc X cl) Gi mi Hi st0) (hm0 : D' ∉ mi) (hg0 : Gi D' = none) (hH0 : Hi D' = some (.lst vs0)) (ra0 : RepAll (rc X cl) Gi vs0 acc0)
    (p : Post (rc X cl) (RepV (rc X cl)) G0 m0 H0 Q (fun _ _ _ => False) ((compL tg1 tt1 ee (wipeE e1 vs1) ys st0).bind fun ds s => K (acc0 ++ ds) s)) :
    ∃ W1 : Nat → Nat → Hp → Prop, (∃ k, W1 0 k Hi) ∧ ∀ j k H, W1 j k H → (J.stop j H ∧ Nx H) ∨ (J.go j H ∧ ∃ Nx1 : Hp → Prop, (∀ H', Nx1 H' → ∃ k', k' < k ∧ W1 (j + 1) k' H') ∧ ∀ x H', J.yld j H x H' → tg1.g X.K x (L2.wipe σ2 vs1) H' fun σ3 H5 => L2.wipe σ3 vs1 = L2.wipe σ2 vs1 ∧
      tT (rc X cl) WF tt1 σ3 H5 fun b H6 => if b = true then tE (rc X cl) WF ee σ3 H6 fun y H7 => ∃ acc, H7 D' = some (.lst acc) ∧ acc.length < sizeLine ∧ Nx1 (upd H7 D' (.lst (acc ++ [y]))) else Nx1 H6) := by
  let St : Nat → Hp → Prop := fun i H => ∃ G m st vs' acc, Sub Gi G ∧ (∀ (i : Nat) (a : Addr), mi[i]? = some a → m[i]? = some a) ∧ Ext G0 m0 H0 G m H ∧ Rl (rc X cl) G m H st ∧ D' ∉ m ∧ G D' = none ∧ H D' = some (.lst vs') ∧ RepAll (rc X cl) G vs' acc ∧
    Post (rc X cl) (RepV (rc X cl)) G0 m0 H0 Q (fun _ _ _ => False) ((compL tg1 tt1 ee (wipeE e1 vs1) (ys.drop i) st).bind fun ds s => K (acc ++ ds) s)
  refine ⟨fun i k H => k = ys.length - i ∧ i ≤ ys.length ∧ St i H, ⟨ys.length, by simp, Nat.zero_le _, Gi, mi, st0, vs0, acc0, Sub.refl _, fun _ _ z => z, ex0, rl0, hm0, hg0, hH0, ra0, by simpa using p⟩, ?_⟩
  rintro i k H ⟨rfl, hi, G, m, st, vs', acc, sb, pre, ex, rl, hm, hg, hH, ra, q⟩
  by_cases hlt : i < ys.length
  · refine .inr ⟨Iters.go it sb rl hlt, St (i + 1), fun H' z => ⟨ys.length - (i + 1), by omega, rfl, hlt, z⟩, fun x H1 y => ?_⟩
    obtain ⟨G1, ex1, rl1, rx⟩ := Iters.yld it sb rl y (List.getElem?_eq_getElem hlt)
    have h1D : H1 D' = some (.lst vs') := ex1.frm _ _ hH hm
    rw [List.drop_eq_getElem_cons hlt] at q
    simp only [compL] at q
    split at q
    · exact q.elim
    · rename_i e2 ee1
      have enG : EnvR (rc X cl) G m σ2 e1 := ⟨en.1, fun i v z => by
        obtain ⟨x, h1, h2⟩ := en.2 i v z
        refine ⟨x, h1, ?_⟩
        cases h2 with
        | d h => exact .d (h.sub sb)
        | r h => exact .r (pre _ _ h)
        | s h => exact .s (SqL.sub sb h)⟩
      have en1 : EnvR (rc X cl) G1 m (L2.wipe σ2 vs1) (wipeE e1 vs1) := (enG.ext ex1).wipe vs1
      refine Tg.g_of rl1 en1 rx ee1 fun σ3 o2 en2 => ⟨wipe_out o2 hsl, G1, m, e2, st, rl1, en2, ?_⟩
      rw [R.bind_assoc] at q
      cases et : tt1 e2 st with
      | bad => rw [et] at q; exact q.elim
      | exc e s => rw [et] at q; exact q.elim
      | ok b s1 =>
        rw [et] at q
        intro b' H2 G2 m2 ex2 rl2 rb
        cases (show b' = b from rb)
        have h2D : H2 D' = some (.lst vs') := ex2.frm _ _ h1D hm
        have hm2 : D' ∉ m2 := fun z => (ex2.new _ z).elim hm (fun w => by rw [h1D] at w; cases w)
        have hg2 : G2 D' = none := stayG (ex1.trans ex2) hg hm (by rw [hH]; simp)
        cases b with
        | false =>
          rw [if_neg (by decide)]
          exact ⟨G2, m2, s1, vs', acc, (sb.trans ex1.sub).trans ex2.sub, fun i a z => ex2.pre i a (pre i a z), (ex.trans ex1).trans ex2, rl2, hm2, hg2, h2D, (ra.sub ex1.sub).sub ex2.sub, q⟩
        | true =>
          rw [if_pos rfl]
          refine ⟨G2, m2, e2, s1, rl2, en2.ext ex2, ?_⟩
          simp only [R.bind_ok, noX] at q
          cases ev : ee e2 s1 with
          | bad => rw [ev] at q; exact q.elim
          | exc e s => rw [ev] at q; exact q.elim
          | ok v s2 =>
            rw [ev] at q
            intro yv H3 G3 m3 ex3 rl3 ry
            simp only [R.bind_ok, noX] at q
            split at q
            · rename_i d s3 ed
              obtain ⟨G4, rl4, ex4, rd⟩ := toD_rep rl3 ry ed
              have h3D : H3 D' = some (.lst vs') := ex3.frm _ _ h2D hm2
              have hm3 : D' ∉ m3 := fun z => (ex3.new _ z).elim hm2 (fun w => by rw [h2D] at w; cases w)
              have hg4 : G4 D' = none := stayG (ex3.trans ex4) hg2 hm2 (by rw [h2D]; simp)
              rw [R.bind_assoc] at q
              have line : vs'.length < sizeLine := by
                cases qc : compL tg1 tt1 ee (wipeE e1 vs1) (ys.drop (i + 1)) s3 with
                | bad => rw [qc] at q; exact q.elim
                | exc e s => exact absurd qc (compL_noX _ _ _ _ _)
                | ok ds s4 =>
                  rw [qc] at q
                  have z := hK _ _ q
                  rw [sizeLine_eq, ra.length]
                  simp at z; omega
              refine ⟨vs', h3D, line, G4, m3, s3, vs' ++ [yv], acc ++ [d], ((sb.trans ex1.sub).trans ex2.sub).trans (ex3.sub.trans ex4.sub), fun i a z => ex3.pre i a (ex2.pre i a (pre i a z)), ((((ex.trans ex1).trans ex2).trans ex3).trans ex4).side hD _, rl4.side hm3 hg4 _, hm3, hg4, upd_same, ((((ra.sub ex1.sub).sub ex2.sub).sub ex3.sub).sub ex4.sub).append (.cons rd .nil), ?_⟩
              simpa [R.bind_ok] using q
            · exact q.elim
  · have e : i = ys.length := by omega
    subst e
    refine .inl ⟨Iters.stop it sb rl (Nat.le_refl _), ?_⟩
    rw [List.drop_length] at q
    simp only [compL, R.bind_ok, List.append_nil] at q
    exact hNx G m H st vs' acc (.inr sb) ex rl hm hg hH ra q
def eLc2 (vs vs1 : List Nat) (tg : Tg) (ei : EI) (tt : ET) (tg1 : Tg) (ei1 : EI) (tt1 : ET) (ee : EE) : EE := fun env st => (ei env st).bind fun xs s => (compL2 tg tt ei1 vs1 tg1 tt1 ee (wipeE env vs) xs s).bind fun ds s2 => if small ds.length = true then .ok (.d (.list ds)) s2 else .bad
theorem compL2_noX {vs1 : List Nat} (env : Ev) : ∀ (xs : List D) (st : Sto) (e : Exn) (s : Sto), compL2 tg tt ei1 vs1 tg1 tt1 ee env xs st ≠ .exc e s
  | [], st, e, s => by simp [compL2]
  | x :: xs, st, e, s => by
    simp only [compL2]
    split
    · simp
    · rename_i e1 _
      cases tt e1 st with
      | bad => simp [noX]
      | exc _ _ => simp [noX]
      | ok b s1 =>
        simp only [noX, R.bind_ok]
        cases b with
        | false => exact compL2_noX env xs s1 e s
        | true =>
          cases ei1 e1 s1 with
          | bad => simp [noX]
          | exc _ _ => simp [noX]
          | ok ys s2 =>
            simp only [noX, R.bind_ok]
            cases q : compL tg1 tt1 ee (wipeE e1 vs1) ys s2 with
            | bad => simp
            | exc e' s' => exact absurd q (compL_noX _ _ _ _ _)
            | ok ds s3 =>
              simp only [R.bind_ok]
              cases q : compL2 tg tt ei1 vs1 tg1 tt1 ee env xs s3 with
              | ok _ _ => simp
              | bad => simp
              | exc e' s' => exact absurd q (compL2_noX env xs s3 e' s')
theorem lc2_post {vs vs1 : List Nat} {σ : L2.St} {H : Hp} {Q : VK} (hsl : ∀ i ∈ tg.slots, i ∈ vs) (hsl1 : ∀ i ∈ tg1.slots, i ∈ vs1)
    (h : tE (rc X cl) W (eLc2 vs vs1 tg ei tt tg1 ei1 tt1 ee) σ H Q) :
    tLc2 (tI (rc X cl) W ei) (tg.g X.K) (tT (rc X cl) WF tt) (tI (rc X cl) WF ei1) (tg1.g X.K) (tT (rc X cl) WF tt1) (tE (rc X cl) WF ee) vs vs1 σ H Q := by
  obtain ⟨G, m, env, st, rl, en, p⟩ := h
  refine ⟨G, m, env, st, rl, en, Post.bindE p fun xs s1 J H1 G1 m1 e0 e1 rl1 it p1 => fun D' hD => ?_⟩
  have en1 := en.ext e1
  let fz : List D → Sto → R Val := fun ds s2 => if small ds.length = true then .ok (.d (.list ds)) s2 else .bad
  have p2 : Post (rc X cl) (RepV (rc X cl)) G1 m1 H1 Q (fun _ _ _ => False) ((compL2 tg tt ei1 vs1 tg1 tt1 ee (wipeE env vs) xs s1).bind fz) := by
    cases q : compL2 tg tt ei1 vs1 tg1 tt1 ee (wipeE env vs) xs s1 with
    | bad => rw [q] at p1; exact p1
    | exc e s => exact absurd q (compL2_noX _ _ _ _ _)
    | ok ds s2 =>
      rw [q] at p1
      show Post _ _ _ _ _ _ _ (if small ds.length = true then _ else _)
      simp only [R.bind_ok] at p1
      split
      · rename_i hs; rw [if_pos hs] at p1; exact p1
      · rename_i hs; rw [if_neg hs] at p1; exact p1
  have hfz : ∀ l s, Post (rc X cl) (RepV (rc X cl)) G1 m1 H1 Q (fun _ _ _ => False) (fz l s) → l.length ≤ 1000000 := fun l s z => by
    show l.length ≤ _
    by_cases hs : small l.length = true
    · exact of_decide_eq_true hs
    · have : fz l s = .bad := if_neg hs
      rw [this] at z; exact z.elim
  let St : Nat → Hp → Prop := fun i H => ∃ G m st vs' acc, Ext G1 m1 H1 G m H ∧ Rl (rc X cl) G m H st ∧ D' ∉ m ∧ G D' = none ∧ H D' = some (.lst vs') ∧ RepAll (rc X cl) G vs' acc ∧
    Post (rc X cl) (RepV (rc X cl)) G1 m1 H1 Q (fun _ _ _ => False) ((compL2 tg tt ei1 vs1 tg1 tt1 ee (wipeE env vs) (xs.drop i) st).bind fun ds s => fz (acc ++ ds) s)
  refine ⟨fun i k H => k = xs.length - i ∧ i ≤ xs.length ∧ St i H, ⟨xs.length, by simp, Nat.zero_le _, G1, m1, s1, [], [], (Ext.refl _ _ _).side hD _, rl1.side (rl1.notin hD) (rl1.freeG hD) _, rl1.notin hD, rl1.freeG hD, upd_same, .nil, by simpa using p2⟩, ?_⟩
  rintro i k H ⟨rfl, hi, G, m, st, vs', acc, ex, rl, hm, hg, hH, ra, q⟩
  by_cases hlt : i < xs.length
  · refine .inr ⟨Iters.go it ex.sub rl hlt, St (i + 1), fun H' z => ⟨xs.length - (i + 1), by omega, rfl, hlt, z⟩, fun x H2 y => ?_⟩
    obtain ⟨G2, ex2, rl2, rx⟩ := Iters.yld it ex.sub rl y (List.getElem?_eq_getElem hlt)
    have h2D : H2 D' = some (.lst vs') := ex2.frm _ _ hH hm
    rw [List.drop_eq_getElem_cons hlt] at q
    simp only [compL2] at q
    split at q
    · exact q.elim
    · rename_i e2 ee1
      have en2 : EnvR (rc X cl) G2 m (L2.wipe σ vs) (wipeE env vs) := ((en1.ext ex).ext ex2).wipe vs
      refine Tg.g_of rl2 en2 rx ee1 fun σ2 o2 en3 => ⟨wipe_out o2 hsl, G2, m, e2, st, rl2, en3, ?_⟩
      rw [R.bind_assoc] at q
      cases et : tt e2 st with
      | bad => rw [et] at q; exact q.elim
      | exc e s => rw [et] at q; exact q.elim
      | ok b s2 =>
        rw [et] at q
        intro b' H3 G3 m3 ex3 rl3 rb
        cases (show b' = b from rb)
        have h3D : H3 D' = some (.lst vs') := ex3.frm _ _ h2D hm
        have hm3 : D' ∉ m3 := fun z => (ex3.new _ z).elim hm (fun w => by rw [h2D] at w; cases w)
        have hg3 : G3 D' = none := stayG (ex2.trans ex3) hg hm (by rw [hH]; simp)
        cases b with
        | false =>
          rw [if_neg (by decide)]
          exact ⟨G3, m3, s2, vs', acc, (ex.trans ex2).trans ex3, rl3, hm3, hg3, h3D, (ra.sub ex2.sub).sub ex3.sub, q⟩
        | true =>
          rw [if_pos rfl]
          refine ⟨G3, m3, e2, s2, rl3, en3.ext ex3, ?_⟩
          simp only [R.bind_ok, noX] at q
          cases ev : ei1 e2 s2 with
          | bad => rw [ev] at q; exact q.elim
          | exc e s => rw [ev] at q; exact q.elim
          | ok ys s3 =>
            rw [ev] at q
            intro J1 H4 G4 m4 ex4 rl4 it1
            simp only [R.bind_ok, noX] at q
            have h4D : H4 D' = some (.lst vs') := ex4.frm _ _ h3D hm3
            have hm4 : D' ∉ m4 := fun z => (ex4.new _ z).elim hm3 (fun w => by rw [h3D] at w; cases w)
            have hg4 : G4 D' = none := stayG ex4 hg3 hm3 (by rw [h3D]; simp)
            refine lc_in (K := fun l s => (compL2 tg tt ei1 vs1 tg1 tt1 ee (wipeE env vs) (xs.drop (i + 1)) s).bind fun es s4 => fz (l ++ es) s4) (G0 := G1) (m0 := m1) (H0 := H1) (Q := Q) (acc0 := acc) hsl1 it1 hD ((en3.ext ex3).ext ex4) (fun l s z => ?_) (fun Ga ma Ha sa va ac _ exa rla hma hga hHa raa pa => ⟨Ga, ma, sa, va, ac, exa, rla, hma, hga, hHa, raa, pa⟩)
              ((((ex.trans ex2).trans ex3).trans ex4)) rl4 hm4 hg4 h4D (((ra.sub ex2.sub).sub ex3.sub).sub ex4.sub) ?_
            · cases qc : compL2 tg tt ei1 vs1 tg1 tt1 ee (wipeE env vs) (xs.drop (i + 1)) s with
              | bad => rw [qc] at z; exact z.elim
              | exc e s => exact absurd qc (compL2_noX _ _ _ _ _)
              | ok es s4 =>
                rw [qc] at z
                have := hfz _ _ z
                simp at this; omega
            · rw [R.bind_assoc] at q
              simpa [R.bind_assoc, R.bind_ok] using q
  · have e : i = xs.length := by omega
    subst e
    refine .inl ⟨Iters.stop it ex.sub rl (Nat.le_refl _), ?_⟩
    rw [List.drop_length] at q
    simp only [compL2, R.bind_ok, List.append_nil] at q
    have q' : Post (rc X cl) (RepV (rc X cl)) G1 m1 H1 Q (fun _ _ _ => False) (fz acc st) := q
    by_cases hs : small acc.length = true
    · have : fz acc st = .ok (.d (.list acc)) st := if_pos hs
      rw [this] at q'
      obtain ⟨r2, ex2, sb⟩ := rl.laySide ex hD hm hg hH
      exact q' _ H _ m ex2 r2 (.d (.lst upd_same (ra.sub sb)))
    · have : fz acc st = .bad := if_neg hs
      rw [this] at q'; exact q'.elim
variable {scope : Scope} {own : List (Str × Nat)} {vs1 : List Nat}
theorem se_lc2 (hc : X.calm = true) (hN : X.N.Nodup) (hi : SI cl X W t a ei) (ok : BlkOk X.N X.env.scope scope own) (hv : ∀ i ∈ vs1, i ∈ own.map (·.2)) (hg : ∀ (s : Shared) (H : Hp) (C : Addr) (cc : List (Str × Addr)) (fp : List Addr), SG (X.blk s H scope (compEnvC scope cc C X.env) fp) t tg)
    (ht : ∀ (s : Shared) (H : Hp) (C : Addr) (cc : List (Str × Addr)) (fp : List Addr), STs cl (X.blk s H scope (compEnvC scope cc C X.env) fp) WF ifs tt)
    (hi1 : ∀ (s : Shared) (H : Hp) (C : Addr) (cc : List (Str × Addr)) (fp : List Addr), SI cl (X.blk s H scope (compEnvC scope cc C X.env) fp) WF t1 a1 ei1)
    (hg1 : ∀ (s : Shared) (H : Hp) (C : Addr) (cc : List (Str × Addr)) (fp : List Addr), SG (X.blk s H scope (compEnvC scope cc C X.env) fp) t1 tg1)
    (ht1 : ∀ (s : Shared) (H : Hp) (C : Addr) (cc : List (Str × Addr)) (fp : List Addr), STs cl (X.blk s H scope (compEnvC scope cc C X.env) fp) WF ifs1 tt1)
    (he : ∀ (s : Shared) (H : Hp) (C : Addr) (cc : List (Str × Addr)) (fp : List Addr), SE cl (X.blk s H scope (compEnvC scope cc C X.env) fp) WF elt ee) (hsl : ∀ i ∈ tg.slots, i ∈ own.map (·.2)) (hsl1 : ∀ i ∈ tg1.slots, i ∈ vs1) (hs : ∀ x, foldedSetIterable a X.env x = pure x := by intro _; rfl) (hs1 : ∀ env x, foldedSetIterable a1 env x = pure x := by intro _ _; rfl) :
    SE cl X W (.ListComp elt [⟨t, a, ifs, 0⟩, ⟨t1, a1, ifs1, 0⟩] scope pos) (eLc2 (own.map (·.2)) vs1 tg ei tt tg1 ei1 tt1 ee) := (pe_lc2 hc hN hi ok hv hg ht hi1 hg1 ht1 he hs hs1).impM fun σ H Q h => lc2_post hsl hsl1 h
end
end Mi
end

section
set_option maxRecDepth 100000
set_option autoImplicit false
namespace L2
open PySem PySem.Spec PyProof.Rows
section
variable {prog : Program} {w : World} {A : Around} {E : Value → Shared → Prop} {s : Shared}
theorem walksS_tup (hh : A.handled = none) (I ax : Addr) (hne : ax ≠ I) (items : Array Value) (k : Nat) :
    WalksS prog w A I [I, ax] [I] (fun a b => a = b) (items.size - k) (fun i v => items[i + k]? = some v) (fun i s => s.heap.IsTupleIter I ax (i + k) ∧ s.heap.IsTuple ax items ∧ k ≤ items.size) where
  sub := fun b hb => by simp at hb; simp [hb]
  grefl := fun _ => rfl
  gtrans := fun _ _ _ a b => a.trans b
  frame := fun _ _ _ _ st _ hk => ⟨st.1.at fun o e => hk I (by simp) o e, st.2.1.at fun o e => hk ax (by simp) o e, st.2.2⟩
  item := fun i s Q E hi st hQ => by
    have hlt : i + k < items.size := by omega
    refine wpAny_pyNext_tuple_item st.1 st.2.1 (x := items[i + k]) (by simp [hlt]) fun h' hit' hs' => ?_
    refine hQ _ { s with heap := h' } (by simp [hlt]) ⟨?_, st.2.1.extBut hs'.extBut hne, st.2.2⟩ ⟨fun b o hb e => hs'.extBut b o (fun h => hb (by simp [h])) e, rfl, rfl, rfl, Nat.le_refl _⟩
    rw [show i + 1 + k = i + k + 1 by omega]; exact hit'
  done := fun s Q E st hQ => by
    refine wpAny_pyNext_tuple_end hh st.1 st.2.1 (Array.getElem?_eq_none (by have := st.2.2; omega)) fun h' he' => hQ { s with heap := h' } ⟨fun b o hb e => he' b o (fun h => hb (by simp [h])) e, rfl, rfl, rfl, Nat.le_refl _⟩
  self := fun _ _ _ _ st hQ => wpAny_pyIter_tupleiter st.1 hQ
/-- x, *rest = t -/
theorem unpackItems_star {t : Addr} {items : Array Value} {x : Value} {Q : List Value → Shared → Prop} (hh : A.handled = none) (ht : s.heap.IsTuple t items) (hx : items[0]? = some x) (hz : items.size ≤ sizeLine)
    (hQ : ∀ s' : Shared, (∀ b o, s.heap.get? b = some o → s'.heap.get? b = some o) → s'.gens = s.gens → s'.os = s.os → Q [x, .ref s'.heap.objs.size] { s' with heap := s'.heap.push { cls := .type "list", data := .seq (items.toList.drop 1).toArray } }) :
    wpAny (model prog w) A (unpackItems (.ref t) 2 (some 1)) Q E s := by
  have hlt : t ≠ s.heap.objs.size := by obtain ⟨o, ho, _⟩ := ht; exact Nat.ne_of_lt (Heap.lt_size ho)
  have hpos : 1 ≤ items.size := by
    rcases Nat.eq_zero_or_pos items.size with e | e
    · rw [Array.getElem?_eq_none (by omega)] at hx; cases hx
    · exact e
  unfold unpackItems
  refine wpAny_bind ?_
  unfold notIterableAtAll
  refine wpAny_bind (wpAny_specialOf ht.typeIs slot_tuple_iter.lookup ?_)
  refine wpAny_pure ?_
  simp only [Bool.false_eq_true, if_false]
  refine wpAny_bind (wpAny_holding (wpAny_pyIter_tuple ht ?_))
  have ht1 : (s.heap.push { cls := .type "tuple_iterator", data := .fields #[.ref t, rawInt 0] }).IsTuple t items := by
    obtain ⟨o, ho, r⟩ := ht
    exact ⟨o, Heap.get?_push_of_some _ ho, r⟩
  refine wpAny_bind (wpAny_holding (wpAny_draw_tuple hlt 1 0 _ _ ⟨_, Heap.get?_push_size _ rfl, rfl, rfl⟩ ht1 (by omega) fun h₁ hit₁ hs₁ => ?_))
  have hl : items.toList = x :: items.toList.drop 1 := by
    have h0 : items.toList[0]? = some x := by simpa using hx
    cases e : items.toList with
    | nil => rw [e] at h0; simp at h0
    | cons a r => rw [e] at h0; simp at h0; rw [h0]; rfl
  have hf : List.take 1 (List.drop 0 items.toList) = [x] := by rw [List.drop_zero, hl]; rfl
  rw [hf]
  rw [if_neg (by simp)]
  have k1 : ∀ b o, s.heap.get? b = some o → h₁.get? b = some o := fun b o e => hs₁.extBut b o (Nat.ne_of_lt (Heap.lt_size e)) (Heap.get?_push_of_some _ e)
  have ht₁ : h₁.IsTuple t items := by
    obtain ⟨o, ho, r⟩ := ht
    exact ⟨o, k1 _ _ ho, r⟩
  have hsz : s.heap.objs.size < h₁.objs.size := by obtain ⟨o, e, _⟩ := id hit₁; exact Heap.lt_size e
  have hht : t < h₁.objs.size := by obtain ⟨o, ho, _⟩ := ht₁; exact Heap.lt_size ho
  refine wpAny_bind (wpAny_holding (wpAny_collect_iter (T := "tuple_iterator") (.inr (.inr (.inr rfl))) (walksS_tup (A := A.in1) hh s.heap.objs.size t hlt items 1) (fun i s st => st.1.typeIs) ⟨by simpa using hit₁, ht₁, hpos⟩ (fun b hb => ?_) (by simp) (fun s' acc mv ia => ?_) (by omega)))
  · rcases List.mem_cons.mp hb with e | hb
    · rw [e]; exact hsz
    · simp at hb; rw [hb]; exact hht
  · have ea : acc.toList = items.toList.drop 1 := by
      obtain ⟨h1, h2⟩ := ia
      apply List.ext_getElem?
      intro j
      by_cases hj : j < acc.size
      · have e1 : acc[j]? = some acc[j] := by simp [hj]
        have e2 := h2 j _ e1
        rw [Array.getElem?_toList, e1, List.getElem?_drop, Array.getElem?_toList, show 1 + j = j + 1 by omega]
        exact e2.symm
      · rw [Array.getElem?_toList, Array.getElem?_eq_none (by omega), List.getElem?_eq_none]
        rw [List.length_drop, Array.length_toList]; omega
    rw [ea]
    simp only [show 2 - 1 - 1 = 0 from rfl, Nat.not_lt_zero, if_false, Nat.sub_zero, List.take_length, List.drop_length, List.append_nil]
    refine wpAny_bind (wpAny_newList ?_ ?_)
    · refine wpAny_pure ?_
      refine hQ s' (fun b o e => mv.heap b o (fun z => ?_) (k1 b o e)) mv.gens.symm mv.os
      simp at z
      exact absurd (Heap.lt_size e) (by rw [z]; exact Nat.lt_irrefl _)
    · rw [List.length_drop, Array.length_toList]; omega
end
/-- the target x, *rest -/
def gStar (K : PySem.W.Frag) (i j : Nat) : TG := fun v σ H Q => ∃ a x xs, v = .ref a ∧ SqT K H a (x :: xs) ∧ ∀ p, H p = none → Q ((σ.set i (some x)).set j (some (.ref p))) (upd H p (.lst xs))
theorem pg_star {X : Cx} {x y : Str} {i j k : Nat} {p1 p2 p3 pos : Pos} (hc : X.calm = true) (hN : X.N.Nodup) (hi : X.N[i]? = some x) (hj : X.N[j]? = some y) (hx : Loc X.env.scope x) (hy : Loc X.env.scope y) (hf : ∀ z, X.fn z = true) :
    PG X (.Tuple [.Name x p1, .Starred (.Name y p2) p3] k pos) (gStar X.K i j) := by
  refine ⟨fun pins s σ H v u Q I r hw => ?_⟩
  obtain ⟨a, z, zs, e1, hq, hw⟩ := hw
  subst e1
  cases r
  obtain ⟨its, rv, ht, hz⟩ := I.tuple hq
  cases rv with
  | cons rz rzs =>
    rename_i uz uzs
    rw [assign_Tuple]
    refine wpAny_bind (wpAny_standAt ?_)
    unfold unpack
    show wpAny _ _ (holding [.ref a] (unpackItems (.ref a) 2 (some 1)) >>= fun l => assignInOrder [assign (.Name x p1) X.env, assign (.Name y p2) X.env] l) _ _ _
    refine wpAny_bind (wpAny_holding (unpackItems_star (I.ok.hd hc) (show s.heap.IsTuple a (uz :: uzs).toArray from ht) (x := uz) (by simp) (by have h1 := rzs.length; simp at hz ⊢; omega) fun s' k g o => ?_))
    have I1 : Inv X pins σ H s' := I.call' (ch := []) o (Un.kept k) (I.hok.kept k) (by rw [g]; exact I.bare) fun _ z => nomatch z
    have I2 : Inv X pins σ (upd H s'.heap.objs.size (.lst zs)) { s' with heap := s'.heap.push { cls := .type "list", data := .seq ((uz :: uzs).toArray.toList.drop 1).toArray } } :=
      I1.laid (t' := s'.toks) (o := .lst zs) (fun b ob q => Heap.get?_push_of_some _ q) (Nat.le_refl _) ⟨by have := hz; simp at this; omega, uzs, _, rzs, by simpa using Heap.get?_push_size s'.heap rfl⟩
    refine assignInOrder_cons (wpAny_assign_Name (store_ok I2 hN hi hx rz (fun s2 I3 => ?_) (.inl (hf x))))
    refine assignInOrder_cons (wpAny_assign_Name (store_ok (v := .ref s'.heap.objs.size) I3 hN hj hy rfl (fun s3 I4 => ?_) (.inl (hf y))))
    exact assignInOrder_nil ⟨_, _, I4, hw _ (I1.hok.fresh (Nat.le_refl _))⟩
end L2

namespace Mi
open PySem PySem.Spec L2
section
variable {cl : Nat → Addr} {X : Cx} {W : WX} {pos : Pos} {a b c o : Expr} {ea eb : EE}
/-- x, *rest = e -/
def sStar (i j : Nat) (e : EE) : ES := fun env st => (e env st).bindS env fun v s => match v with
  | .d (.tuple (x :: xs)) => .ok (.nx ((env.set i (some (.d x))).set j (some (.d (.list xs))))) s
  | _ => .bad
theorem ss_star {x y : Str} {k : Nat} {p1 p2 p3 ptup : Pos} (i j : Nat) (hc : X.calm = true) (hN : X.N.Nodup) (hi : X.N[i]? = some x) (hj : X.N[j]? = some y) (hx : Loc X.env.scope x) (hy : Loc X.env.scope y) (hf : ∀ z, X.fn z = true) (he : SE cl X W a ea)
    (hs : swapsWithSole [.Tuple [.Name x p1, .Starred (.Name y p2) p3] k ptup] a pos.line X.env = pure false := by rfl) (hw : swappedStores [.Tuple [.Name x p1, .Starred (.Name y p2) p3] k ptup] a X.env = pure none := by rfl) :
    SS cl X W (.Assign [.Tuple [.Name x p1, .Starred (.Name y p2) p3] k ptup] a pos) (sStar i j ea) := (ps_asg he (pg_star hc hN hi hj hx hy hf) hs hw rfl).impM fun D σ H h => by
  obtain ⟨G, m, env, st, rl, en, p⟩ := h
  refine ⟨G, m, env, st, rl, en, Post.bindS en p fun v s1 x H1 G1 m1 _ e1 rl1 r1 p1 => ?_⟩
  split at p1
  · rename_i z zs _
    cases r1 with
    | d r =>
      cases r with
      | tup q ra =>
        cases ra with
        | cons rz rzs =>
          refine ⟨_, _, _, rfl, SqT.sub rl1.sub q, fun p hp => ?_⟩
          obtain ⟨r2, ex⟩ := rl1.laid hp (.lst _)
          exact p1 _ _ _ _ ex r2 ((((en.ext e1).ext ex).set (.d (rz.sub ex.sub)) i).set (.d (.lst upd_same (rzs.sub ex.sub))) j)
  · exact p1.elim
/-! ### several names at once, of a display -/
theorem gAll_vals {C : RC} {G : Hp} {m : List Addr} {H : Hp} : ∀ (is : List Nat) (vs : List V) (xs : List Val) (σ : L2.St) (env : Ev) (Q : L2.St → Hp → Prop), EnvR C G m σ env → RepVs C G m vs xs → xs.length = is.length →
    (∀ σ', EnvR C G m σ' (setVs is xs env) → Q σ' H) → gAll is vs σ H Q
  | [], _, [], σ, env, Q, en, r, hl, h => by cases r; exact ⟨rfl, h σ en⟩
  | [], _, _ :: _, σ, env, Q, en, r, hl, h => by simp at hl
  | _ :: _, _, [], σ, env, Q, en, r, hl, h => by simp at hl
  | i :: is, _, x :: xs, σ, env, Q, en, r, hl, h => by
    cases r with
    | cons r1 r2 => exact ⟨_, _, rfl, gAll_vals is _ xs _ _ Q (en.set r1 i) r2 (by simpa using hl) h⟩
theorem ss_parN {es ts : List Expr} {er : EA} {k k2 : Nat} {pt pt2 : Pos} {is : List Nat} (hc : X.calm = true) (ha : SA cl X W es er) (hg : PGs X ts (gAll is)) (hlen : is.length ≤ 1000) (hn : (assignEach ts X.env).length = is.length := by rfl) (hst : (assignEach ts X.env).findIdx? (·.1) = none := by rfl)
    (hs : swapsWithSole [.Tuple ts k pt] (.Tuple es k2 pt2) pos.line X.env = pure false := by rfl) (hw : swappedStores [.Tuple ts k pt] (.Tuple es k2 pt2) X.env = pure none := by rfl) :
    SS cl X W (.Assign [.Tuple ts k pt] (.Tuple es k2 pt2) pos) (sParN is er) := (ps_asg (pe_tup ha) (pg_tup hc hg hn hst) hs hw rfl).impM fun D σ H h => by
  obtain ⟨G, m, env, st, rl, en, p⟩ := h
  refine ⟨G, m, env, st, rl, en, Post.bindS en p fun v s1 x H1 G1 m1 _ e1 rl1 r1 p1 => ?_⟩
  split at p1
  · rename_i hl
    refine ⟨by rw [r1.length, hl, sizeLine_eq]; omega, fun p hp => ?_⟩
    obtain ⟨r2, ex⟩ := rl1.laid hp (.tup x)
    exact ⟨_, _, rfl, SqT.of upd_same, by rw [r1.length]; exact hl, gAll_vals is _ _ σ env _ ((en.ext e1).ext ex) (r1.ext ex) hl fun σ' en' => p1 σ' _ _ _ ex r2 en'⟩
  · exact p1.elim
/-! ### append, extend, pop -/
def eAppend (o a : EE) : EE := fun env st => (o env st).bind fun v s1 => match v with
  | .r i => (match s1[i]? with
    | some (.lst _) => (a env s1).bind fun u s2 => (match toD u s2 with
      | some (x, s3) => (match s3[i]? with
        | some (.lst xs) => if xs.length < 1000000 then .ok (.d .none) (s3.set i (.lst (xs ++ [x]))) else .bad
        | _ => .bad)
      | none => .bad)
    | _ => .bad)
  | _ => .bad
theorem se_append {apos : Pos} (ho : SE cl X W o ea) (ha : SE cl X W a eb) (hbase : attributeBase o "append" X.env (eval o X.env) = eval o X.env := by rfl)
    (hfew : ((backTo pos (starEach [a] X.env)).all (fun x => !x.1) && (backToKw pos (keywordEach [] X.env)).all (fun x => x.1.isSome) && decide ([a].length + ([] : List Keyword).length + (if ([] : List Keyword).isEmpty then 0 else 1) < 30)) = true := by rfl)
    (hline : (apos.endLine == pos.line) = true := by rfl) (hs : starEach [a] X.env = (false, eval a X.env) :: starEach [] X.env := by rfl) (hplain : (backTo pos (starEach [] X.env)).any (·.1) = false := by rfl) :
    SE cl X W (.Call (.Attribute o "append" apos) [a] [] pos) (eAppend ea eb) :=
  (pe_bm PySem.F.plainAttrs_list PySem.F.slot_list_append PySem.F.type_list_append mt_append ho (pa_cons ha pa_nil hs) hbase hfew hline hs hplain).impM fun σ H Q h => by
  obtain ⟨G, m, env, st, rl, en, p⟩ := h
  refine ⟨G, m, env, st, rl, en, Post.bindE p fun v s1 x H1 G1 m1 _ e1 rl1 r1 p1 => ?_⟩
  split at p1
  · rename_i i
    cases r1 with
    | r q =>
      split at p1
      · rename_i ys e
        obtain ⟨vs, hv, ra⟩ := rl1.obj _ _ _ e q
        refine ⟨.inl ⟨rfl, vs, SqL.of hv⟩, G1, m1, env, s1, rl1, en.ext e1, Post.bindE p1 fun u s2 y H2 G2 m2 _ e2 rl2 r2 p2 => ?_⟩
        split at p2
        · rename_i d s3 ed
          obtain ⟨G3, rl3, ex3, rd⟩ := toD_rep rl2 r2 ed
          split at p2
          · rename_i xs ex
            split at p2
            · rename_i hl
              have q2 := e2.pre _ _ q
              obtain ⟨vs2, hv2, ra2⟩ := rl3.obj _ _ _ ex q2
              refine ⟨_, vs2, y, rfl, rfl, hv2, by rw [ra2.length, sizeLine_eq]; omega, ?_⟩
              obtain ⟨rl4, ex4⟩ := rl3.write q2 ex (by simp) (.lst (vs2 ++ [y])) (.lst (xs ++ [d])) ⟨_, upd_same, ra2.append (.cons rd .nil)⟩
              exact p2 _ _ _ _ (ex3.trans ex4) rl4 (.d .non)
            · exact p2.elim
          · exact p2.elim
        · exact p2.elim
      · exact p1.elim
  · exact p1.elim
end
end Mi
end

section
set_option maxRecDepth 100000
set_option autoImplicit false
namespace Mi
open PySem PySem.Spec L2
/-! ### the head's facts: defs by names, and one more check -/
abbrev AlM : Type := Bool × List He.FnW
def obsM (fn : List He.DefD) (chk : PySem.W.Frag → Bool) (K : PySem.W.Frag) : AlM := (chk K && fn.all fun d => d.ok K, fn.map fun d => He.fnW K d.at_)
def valM (fn : List He.DefD) : AlM := (true, fn.map He.DefD.val)
def SaysM (fn : List He.DefD) (chk : PySem.W.Frag → Bool) (K : PySem.W.Frag) : Prop := obsM fn chk K = valM fn
def obsMG (n : Nat) (fn : List He.DefD) (chk : PySem.W.Frag → Bool) (g : Addr → Option Obj) : AlM := obsM fn chk (He.frG g (He.asD g n))
def hookM (n : Nat) (fn : List He.DefD) (chk : PySem.W.Frag → Bool) : PySem.W.Hook where
  α := AlM
  obs := fun s => obsMG n fn chk s.heap.get?
  val := fun _ => valM fn
  says := fun _ h => ∃ K : PySem.W.Frag, K.In h ∧ SaysM fn chk K
  of := fun _ _ e => ⟨_, He.frG_in, e⟩
  keeps := fun _ _ _ ⟨K, hK, c⟩ k => ⟨K, PySem.W.Frag.In.keeps hK k, c⟩
theorem obsMG_eq {n : Nat} {fn : List He.DefD} {chk : PySem.W.Frag → Bool} {g : Addr → Option Obj} {s : Shared} (h : ∀ a, g a = s.heap.get? a) : obsMG n fn chk g = (hookM n fn chk).obs s := by
  have e : g = s.heap.get? := funext h
  rw [e] <;> rfl
section
variable {fn : List He.DefD} {chk : PySem.W.Frag → Bool} {K : PySem.W.Frag}
theorem SaysM.check (c : SaysM fn chk K) : chk K = true := by
  have c1 : (chk K && fn.all fun d => d.ok K) = true := congrArg (fun z : AlM => z.1) c
  exact (Bool.and_eq_true_iff.mp c1).1
theorem SaysM.def_ (c : SaysM fn chk K) (i : Nat) {d : He.DefD} (h : fn[i]? = some d := by rfl) : ∃ fd, FunD K d.name d.qual d.params d.body d.scope (d.dvs K) (d.kws K) (He.fAd K d.at_) fd := by
  have c1 : (chk K && fn.all fun d => d.ok K) = true := congrArg (fun z : AlM => z.1) c
  have c2 := (Bool.and_eq_true_iff.mp c1).2
  have e : fn.map (fun d => He.fnW K d.at_) = fn.map He.DefD.val := congrArg (fun z : AlM => z.2) c
  have e2 : (fn.map fun d => He.fnW K d.at_)[i]? = (fn.map He.DefD.val)[i]? := by rw [e]
  rw [List.getElem?_map, List.getElem?_map, h] at e2
  exact He.DefD.funD (Option.some.inj e2) (List.all_eq_true.mp c2 d (List.mem_of_getElem? h))
end
/-- the end of a law, with exceptions in the world's air -/
theorem walk_ofM {l : PySem.W.OpenLaw} {n k : Nat} {q : Program} {loose : List Str} {XP : (Str → Option Value) → Heap → Prop} {YP : World → Heap → Prop} {d : DefRec} {CX : World → CXT} {x : Str}
    (hn : l.most = some n) (hn2 : n ≤ sizeLine) (hdf : d.params.defaults = []) (hr : Room k callerA)
    (F : ∀ (w : World) (mg : Str → Option Value) (fa : Addr) (h : Heap), YP w h → h.Ns mainGlobals mg → mg d.name = some (.ref fa) →
      ∃ (K : PySem.W.Frag) (fd : FuncData) (sp : Sp), K.In h ∧ (∀ (s : Shared) (u : Value), BindsTo s fd ⟨[u], []⟩ [(x, u)]) ∧
        (∀ (H : Hp) (a : Addr) (ns : List Int), ns.length ≤ n → Only H → SqL K H a (ns.map V.int) → sp [.ref a] H (fun v _ => v = .bl true) fun _ _ _ => False) ∧
        ∀ base : Heap, K.In base → base.Ns mainGlobals mg → FnOk l.prog w K mg base (CX w) k fa fd [x] sp)
    (hCX : ∀ (w : World) (H : Hp) (s : Shared) (e : Value) (s' : Shared), CX w [] H s (fun _ _ _ => False) e s' → False) :
    PySem.W.WalkO q loose XP YP l.row.toRowW d [] (fun f vs => PySem.call f vs) :=
  Att.attach_call hn hdf fun w s₀ s₁ mg mb fa o pm cd doc a vs ns G Y ho hd hcd hmg hobj hints hlen hg => by
    obtain ⟨K, fd, sp, KX, hb, hsp, hF⟩ := F w mg fa _ Y G.T.g hmg
    exact law_call KX G.T.g G.T.b G.T.builtins G.T.nolimit hg hobj hints (Nat.le_trans hlen hn2) hr hF hb (fun H hO hS => hsp H a ns hlen hO hS) fun H e s' => hCX w H s₁ e s'
end Mi
end

section
set_option maxRecDepth 100000
set_option autoImplicit false
namespace Mi
open PySem PySem.Spec L2

/-! ### calls of defs, by a table -/
def eCl (n : Nat) (f : FN) (a : EA) : EE := fun env st => (a env st).bind fun vs s => if vs.length = n then f vs s else .bad
structure FokP (cl : Nat → Addr) (P : Program) (w : World) (K : PySem.W.Frag) (mg : Str → Option Value) (base : Heap) (k : Nat) (x : Str) (n : Nat) (f : FN) : Prop where
  ok : ∃ (fa : Addr) (fd : FuncData) (ps : List Str), ps.length = n ∧ FnOk P w K mg base (L2.CX P w) k fa fd ps (spF ⟨K, w, cl⟩ n f) ∧ mg x = some (.ref fa) ∧ PySem.W.keepIn K (.ref fa) = true ∧ Binds K fd ps []
section
variable {cl : Nat → Addr} {X : Cx} {W : WX} {pos p : Pos} {a b : Expr} {es : List Expr} {er : EA} {ea : EE} {x : Str} {k n : Nat} {f : FN}
theorem se_cl (F : FokP cl X.prog X.w X.K X.mg X.base k x n f) (hr : Room k X.A) (tk : Takes X W) (hg : Gl X x) (ha : SA cl X W (a :: es) er) (hdb : (x == ("__debug__" : Str)) = false := by decide)
    (he : starEach (a :: es) X.env = (false, eval a X.env) :: starEach es X.env := by rfl) (hpl : (backTo pos (starEach es X.env)).any (·.1) = false := by rfl) : SE cl X W (.Call (.Name x p) (a :: es) [] pos) (eCl n f er) := by
  obtain ⟨fa, fd, ps, hp, F, hm, hk, hb⟩ := F.ok
  refine (pe_callS F hr hg hm hk hb (fun σ => passAt tk σ) ha hdb he hpl).impM fun σ H Q h => ?_
  obtain ⟨G, m, env, st, rl, en, p⟩ := h
  refine ⟨G, m, env, st, rl, en, Post.bindE p fun v s1 x H1 G1 m1 e0 e1 rl1 r1 p1 => ?_⟩
  split at p1
  · rename_i hl
    exact ⟨G1, m1, s1, v, rl1, r1, hl, p1⟩
  · exact p1.elim
/-- nothing is asked of what never answers -/
theorem fok_bad {P : Program} {w : World} {K : PySem.W.Frag} {mg : Str → Option Value} {base : Heap} {fa : Addr} {fd : FuncData} {ps : List Str} (hp : ps.length = n) (hm : mg x = some (.ref fa)) (hk : PySem.W.keepIn K (.ref fa) = true) (hb : Binds K fd ps []) : FokP cl P w K mg base 0 x n (fun _ _ => .bad) := by
  refine ⟨fa, fd, ps, hp, ?_, hm, hk, hb⟩
  have no : ∀ vs H Q E, ¬ spF ⟨K, w, cl⟩ n (fun _ _ => .bad) vs H Q E := fun vs H Q E ⟨G, m, st, as, rl, ra, hl, p⟩ => p
  exact ⟨fun vs H Q E h => absurd h (no vs H Q E), fun A outer s H args us vs Q E _ _ _ _ h => absurd h (no vs H Q E)⟩
/-- a def by its body -/
theorem fok_of {P : Program} {w : World} {K : PySem.W.Frag} {mg : Str → Option Value} {base : Heap} {k : Nat} {x qual : Str} {params : Arguments} {body : List Stmt} {scope : Scope} {dvs : List V} {kws : List (Str × V)} {fa : Addr} {fd : FuncData} {N ps : List Str} {ev : ES} {cl : Nat → Addr} {y : Str} {f : FN}
    (F : FunD K x qual params body scope dvs kws fa fd) (S : FnScope N ps scope) (hle : ps.length ≤ N.length) (hm : mg y = some (.ref fa)) (hb : Binds K fd ps []) (hf : f = runF N.length ps.length ev) (hn : n = ps.length)
    (h : ∀ (cdv : Value) (A : Around) (outer : List Env) (s : Shared) (H : Hp) (E : XK), Room k (cxOf (L2.CX P w) P w K mg base N qual scope fa cdv A outer s H E).A → Takes (cxOf (L2.CX P w) P w K mg base N qual scope fa cdv A outer s H E) (fun cls d _ H' => E cls d H') →
      PassesOwn (model P w) (cxOf (L2.CX P w) P w K mg base N qual scope fa cdv A outer s H E).A (cxOf (L2.CX P w) P w K mg base N qual scope fa cdv A outer s H E).env (cxOf (L2.CX P w) P w K mg base N qual scope fa cdv A outer s H E).xe →
      SSs cl (cxOf (L2.CX P w) P w K mg base N qual scope fa cdv A outer s H E) (fun cls d _ H' => E cls d H') body ev) : FokP cl P w K mg base (k + 1) y n f := by
  subst hf hn
  refine ⟨fa, fd, ps, rfl, ?_, hm, F.kp, hb⟩
  refine F.ok S (fun vs H Q E h => ?_) (fun cdv A outer s H vs Q E hr hh => ?_)
  · obtain ⟨G, m, st, as, rl, ra, hl, p⟩ := h
    rw [ra.length, hl]
  · exact ⟨_, h cdv A outer s H E hr (takes_of rfl rfl rfl rfl) (passes_of rfl), fn_sound_aux hle hh⟩
end
end Mi
namespace Mi
open PySem PySem.Spec L2
/-! ### constants of the module -/
def GC (C : RC) (mg : Str → Option Value) (x : Str) (d : D) : Prop := ∃ u v, mg x = some u ∧ RelV v u ∧ ∀ G, Rep C G v d
mutual
def repK (K : PySem.W.Frag) : Nat → Value → D → Bool
  | _, .none, .none => true
  | _, .bool b, .bool c => b == c
  | _, .int i _, .int j => decide (i = j)
  | _, .str x _, .str y => decide (x = y)
  | n + 1, .ref a, .tuple ds => (match K.lookup a with
    | some ⟨.type c, _, .seq its _, _⟩ => decide (c = "tuple") && (decide (its.size ≤ sizeLine) && repKs K n its.toList ds)
    | _ => false)
  | _, _, _ => false
def repKs (K : PySem.W.Frag) : Nat → List Value → List D → Bool
  | _, [], [] => true
  | n, v :: vs, d :: ds => repK K n v d && repKs K n vs ds
  | _, _, _ => false
end
mutual
theorem repK_ok {K : PySem.W.Frag} {w : World} {cl : Nat → Addr} : ∀ (n : Nat) (u : Value) (d : D), repK K n u d = true → ∃ v, RelV v u ∧ ∀ G, Rep ⟨K, w, cl⟩ G v d
  | n, u, .none, h => by
    cases u <;> first | exact ⟨.non, rfl, fun _ => .non⟩ | (exfalso; cases n <;> simp [repK] at h)
  | n, u, .bool c, h => by
    cases u with
    | bool b =>
      have e : (b == c) = true := by cases n <;> simpa [repK] using h
      have e : b = c := eq_of_beq e
      subst e; exact ⟨.bl b, rfl, fun _ => .bl b⟩
    | _ => exfalso; cases n <;> simp [repK] at h
  | n, u, .int c, h => by
    cases u with
    | int b t =>
      have e : b = c := by cases n <;> simpa [repK] using h
      subst e; exact ⟨.int b, ⟨t, rfl⟩, fun _ => .int b⟩
    | _ => exfalso; cases n <;> simp [repK] at h
  | n, u, .str c, h => by
    cases u with
    | str b t =>
      have e : b = c := by cases n <;> simpa [repK] using h
      subst e; exact ⟨.str b, ⟨t, rfl⟩, fun _ => .str b⟩
    | _ => exfalso; cases n <;> simp [repK] at h
  | n, u, .list _, h => by exfalso; cases u <;> cases n <;> simp [repK] at h
  | n, u, .dict _, h => by exfalso; cases u <;> cases n <;> simp [repK] at h
  | 0, u, .tuple ds, h => by exfalso; cases u <;> simp [repK] at h
  | n + 1, u, .tuple ds, h => by
    cases u with
    | ref a =>
      simp only [repK] at h
      split at h
      · rename_i c od its k sl e
        simp only [Bool.and_eq_true, decide_eq_true_eq] at h
        obtain ⟨h1, h2, h3⟩ := h
        obtain ⟨vs, r1, r2⟩ := repKs_ok (w := w) (cl := cl) n its.toList ds h3
        exact ⟨.ref a, rfl, fun G => .tup (.inr ⟨_, its, k, e, by rw [h1], rfl, h2, r1⟩) (r2 G)⟩
      · cases h
    | _ => exfalso; simp [repK] at h
theorem repKs_ok {K : PySem.W.Frag} {w : World} {cl : Nat → Addr} : ∀ (n : Nat) (us : List Value) (ds : List D), repKs K n us ds = true → ∃ vs, Vals vs us ∧ ∀ G, RepAll ⟨K, w, cl⟩ G vs ds
  | n, [], [], h => ⟨[], .nil, fun _ => .nil⟩
  | n, _ :: _, [], h => by simp [repKs] at h
  | n, [], _ :: _, h => by simp [repKs] at h
  | n, u :: us, d :: ds, h => by
    simp only [repKs, Bool.and_eq_true] at h
    obtain ⟨v, r1, r2⟩ := repK_ok (w := w) (cl := cl) n u d h.1
    obtain ⟨vs, r3, r4⟩ := repKs_ok (w := w) (cl := cl) n us ds h.2
    exact ⟨v :: vs, .cons r1 r3, fun G => .cons (r2 G) (r4 G)⟩
end
def gcB (K : PySem.W.Frag) (x : Str) (d : D) : Bool := match PySem.W.nsIn K mainGlobals x with
  | some (some u) => repK K 20 u d
  | _ => false
theorem gcB_ok {K : PySem.W.Frag} {w : World} {cl : Nat → Addr} {h : Heap} {mg : Str → Option Value} (X : K.In h) (G : h.Ns mainGlobals mg) {x : Str} {d : D} (c : gcB K x d = true) : GC ⟨K, w, cl⟩ mg x d := by
  unfold gcB at c
  split at c
  · rename_i u e
    obtain ⟨v, r1, r2⟩ := repK_ok (w := w) (cl := cl) 20 u d c
    exact ⟨u, v, PySem.W.mg_of X G e, r1, r2⟩
  · cases c
section
variable {cl : Nat → Addr} {X : Cx} {W : WX} {pos : Pos} {a : Expr} {ea : EE}
theorem se_gc {x : Str} {d : D} (h : GC (rc X cl) X.mg x d) (hg : Gl X x) (hd : (x == ("__debug__" : Str)) = false := by decide) : SE cl X W (.Name x pos) (eC d) := by
  obtain ⟨u, v, hm, rv, rd⟩ := h
  exact se_glob rd hg hm rv hd
def eNeg (a : EE) : EE := fun env st => (a env st).bind fun v s => match v with
  | .d (.int i) => .ok (.d (.int (-i))) s
  | _ => .bad
theorem se_neg (ha : SE cl X W a ea) : SE cl X W (.UnaryOp .USub a pos) (eNeg ea) := (pe_un un_neg ha).impM fun σ H Q h => by
  obtain ⟨G, m, env, st, rl, en, p⟩ := h
  refine ⟨G, m, env, st, rl, en, Post.bindE p fun v s1 x H1 G1 m1 _ e1 rl1 r1 p1 => ?_⟩
  split at p1
  · cases r1 with
    | d r => cases r; exact ⟨_, rfl, p1 _ H1 G1 m1 (Ext.refl _ _ _) rl1 (.d (.int _))⟩
  · exact p1.elim
end
/-! ### the built-ins' names -/
def bltns : List Str := ["len", "range", "isinstance", "all", "any", "tuple", "list", "int", "bool", "str", "zip", "enumerate", "sorted", "set", "max", "min", "sum", "dict", "ValueError", "Exception"]
structure Bl (mg : Str → Option Value) : Prop where
  all : ∀ x ∈ bltns, mg x = none
def blB (K : PySem.W.Frag) : Bool := bltns.all fun x => (He.Fa.free x).ok K
theorem blB_ok {K : PySem.W.Frag} {h : Heap} {mg : Str → Option Value} (X : K.In h) (G : h.Ns mainGlobals mg) (c : blB K = true) : Bl mg :=
  ⟨fun x hx => He.free_ok X G (List.all_eq_true.mp c x hx)⟩
theorem Bl.g {mg : Str → Option Value} (b : Bl mg) (x : Str) (h : x ∈ bltns := by decide +kernel) : mg x = none := b.all x h
theorem Bl.len_ {mg : Str → Option Value} (b : Bl mg) : mg "len" = none := b.g "len"
theorem Bl.range_ {mg : Str → Option Value} (b : Bl mg) : mg "range" = none := b.g "range"
theorem Bl.isinstance_ {mg : Str → Option Value} (b : Bl mg) : mg "isinstance" = none := b.g "isinstance"
theorem Bl.all_ {mg : Str → Option Value} (b : Bl mg) : mg "all" = none := b.g "all"
theorem Bl.any_ {mg : Str → Option Value} (b : Bl mg) : mg "any" = none := b.g "any"
theorem Bl.tuple_ {mg : Str → Option Value} (b : Bl mg) : mg "tuple" = none := b.g "tuple"
theorem Bl.list_ {mg : Str → Option Value} (b : Bl mg) : mg "list" = none := b.g "list"
theorem Bl.int_ {mg : Str → Option Value} (b : Bl mg) : mg "int" = none := b.g "int"
theorem Bl.bool_ {mg : Str → Option Value} (b : Bl mg) : mg "bool" = none := b.g "bool"
theorem Bl.str_ {mg : Str → Option Value} (b : Bl mg) : mg "str" = none := b.g "str"
theorem Bl.zip_ {mg : Str → Option Value} (b : Bl mg) : mg "zip" = none := b.g "zip"
theorem Bl.enumerate_ {mg : Str → Option Value} (b : Bl mg) : mg "enumerate" = none := b.g "enumerate"
theorem Bl.sorted_ {mg : Str → Option Value} (b : Bl mg) : mg "sorted" = none := b.g "sorted"
theorem Bl.set_ {mg : Str → Option Value} (b : Bl mg) : mg "set" = none := b.g "set"
theorem Bl.max_ {mg : Str → Option Value} (b : Bl mg) : mg "max" = none := b.g "max"
theorem Bl.min_ {mg : Str → Option Value} (b : Bl mg) : mg "min" = none := b.g "min"
theorem Bl.sum_ {mg : Str → Option Value} (b : Bl mg) : mg "sum" = none := b.g "sum"
theorem Bl.dict_ {mg : Str → Option Value} (b : Bl mg) : mg "dict" = none := b.g "dict"
def globB (K : PySem.W.Frag) (x : Str) : Bool := (He.Fa.glo x).ok K
theorem bb_len : bootBuiltins "len" = some (.builtin "len") := by decide +kernel
theorem bb_all : bootBuiltins "all" = some (.builtin "all") := by decide +kernel
theorem bb_any : bootBuiltins "any" = some (.builtin "any") := by decide +kernel
theorem bb_max : bootBuiltins "max" = some (.builtin "max") := by decide +kernel
theorem bb_min : bootBuiltins "min" = some (.builtin "min") := by decide +kernel
theorem bb_sum : bootBuiltins "sum" = some (.builtin "sum") := by decide +kernel
theorem bb_sorted : bootBuiltins "sorted" = some (.builtin "sorted") := by decide +kernel
theorem bb_tuple : bootBuiltins "tuple" = some (.type "tuple") := by decide +kernel
theorem bb_list : bootBuiltins "list" = some (.type "list") := by decide +kernel
theorem bb_int : bootBuiltins "int" = some (.type "int") := by decide +kernel
theorem bb_bool : bootBuiltins "bool" = some (.type "bool") := by decide +kernel
theorem bb_str : bootBuiltins "str" = some (.type "str") := by decide +kernel
theorem units_of {A : Around} {k : Nat} (hr : Room k A) : A.units + 200 < cLine := by have := hr.un; omega
end Mi
end

section
set_option maxRecDepth 100000
set_option autoImplicit false
namespace Mi
open PySem PySem.Spec L2
@[simp] theorem kit_NoneType_int : kitB "NoneType" "int" = some false := by decide +kernel
@[simp] theorem kit_bool_int : kitB "bool" "int" = some true := by decide +kernel
@[simp] theorem kit_int_int : kitB "int" "int" = some true := by decide +kernel
@[simp] theorem kit_str_int : kitB "str" "int" = some false := by decide +kernel
@[simp] theorem kit_list_int : kitB "list" "int" = some false := by decide +kernel
@[simp] theorem kit_tuple_int : kitB "tuple" "int" = some false := by decide +kernel
@[simp] theorem kit_dict_int : kitB "dict" "int" = some false := by decide +kernel
@[simp] theorem kit_NoneType_bool : kitB "NoneType" "bool" = some false := by decide +kernel
@[simp] theorem kit_bool_bool : kitB "bool" "bool" = some true := by decide +kernel
@[simp] theorem kit_int_bool : kitB "int" "bool" = some false := by decide +kernel
@[simp] theorem kit_str_bool : kitB "str" "bool" = some false := by decide +kernel
@[simp] theorem kit_list_bool : kitB "list" "bool" = some false := by decide +kernel
@[simp] theorem kit_tuple_bool : kitB "tuple" "bool" = some false := by decide +kernel
@[simp] theorem kit_dict_bool : kitB "dict" "bool" = some false := by decide +kernel
@[simp] theorem kit_NoneType_tuple : kitB "NoneType" "tuple" = some false := by decide +kernel
@[simp] theorem kit_bool_tuple : kitB "bool" "tuple" = some false := by decide +kernel
@[simp] theorem kit_int_tuple : kitB "int" "tuple" = some false := by decide +kernel
@[simp] theorem kit_str_tuple : kitB "str" "tuple" = some false := by decide +kernel
@[simp] theorem kit_list_tuple : kitB "list" "tuple" = some false := by decide +kernel
@[simp] theorem kit_tuple_tuple : kitB "tuple" "tuple" = some true := by decide +kernel
@[simp] theorem kit_dict_tuple : kitB "dict" "tuple" = some false := by decide +kernel
@[simp] theorem kit_NoneType_str : kitB "NoneType" "str" = some false := by decide +kernel
@[simp] theorem kit_bool_str : kitB "bool" "str" = some false := by decide +kernel
@[simp] theorem kit_int_str : kitB "int" "str" = some false := by decide +kernel
@[simp] theorem kit_str_str : kitB "str" "str" = some true := by decide +kernel
@[simp] theorem kit_list_str : kitB "list" "str" = some false := by decide +kernel
@[simp] theorem kit_tuple_str : kitB "tuple" "str" = some false := by decide +kernel
@[simp] theorem kit_dict_str : kitB "dict" "str" = some false := by decide +kernel
@[simp] theorem kit_NoneType_list : kitB "NoneType" "list" = some false := by decide +kernel
@[simp] theorem kit_bool_list : kitB "bool" "list" = some false := by decide +kernel
@[simp] theorem kit_int_list : kitB "int" "list" = some false := by decide +kernel
@[simp] theorem kit_str_list : kitB "str" "list" = some false := by decide +kernel
@[simp] theorem kit_list_list : kitB "list" "list" = some true := by decide +kernel
@[simp] theorem kit_tuple_list : kitB "tuple" "list" = some false := by decide +kernel
@[simp] theorem kit_dict_list : kitB "dict" "list" = some false := by decide +kernel

/-! ### how the reader goes on, one thing after the other -/
section
def R.andS (r : R Fl) (b : ES) : R Fl := match r with
  | .ok (.nx e) s => b e s
  | r => r
@[simp] theorem andS_nx (e : Ev) (s : Sto) (b : ES) : (R.ok (.nx e) s).andS b = b e s := rfl
@[simp] theorem andS_rt (v : Val) (s : Sto) (b : ES) : (R.ok (.rt v) s).andS b = .ok (.rt v) s := rfl
@[simp] theorem andS_ex (v : Exn) (e : Ev) (s : Sto) (b : ES) : (R.ok (.ex v e) s).andS b = .ok (.ex v e) s := rfl
@[simp] theorem andS_bad (b : ES) : (R.bad : R Fl).andS b = .bad := rfl
@[simp] theorem sSeq_eq (a b : ES) (env : Ev) (st : Sto) : sSeq a b env st = (a env st).andS b := rfl
@[simp] theorem sNx_eq (env : Ev) (st : Sto) : sNx env st = .ok (.nx env) st := rfl
@[simp] theorem sNever_eq (env : Ev) (st : Sto) : sNever env st = .bad := rfl
@[simp] theorem sRetN_eq (env : Ev) (st : Sto) : sRetN env st = .ok (.rt (.d .none)) st := rfl
def R.retS (r : R Val) (env : Ev) : R Fl := r.bindS env fun v s => .ok (.rt v) s
@[simp] theorem retS_ok (v : Val) (s : Sto) (env : Ev) : (R.ok v s).retS env = .ok (.rt v) s := rfl
@[simp] theorem retS_exc (e : Exn) (s : Sto) (env : Ev) : (R.exc e s).retS env = .ok (.ex e env) s := rfl
@[simp] theorem retS_bad (env : Ev) : (R.bad).retS env = .bad := rfl
@[simp] theorem sRet_eq (e : EE) (env : Ev) (st : Sto) : sRet e env st = (e env st).retS env := rfl
def R.dropS (r : R Val) (env : Ev) : R Fl := r.bindS env fun _ s => .ok (.nx env) s
@[simp] theorem dropS_ok (v : Val) (s : Sto) (env : Ev) : (R.ok v s).dropS env = .ok (.nx env) s := rfl
@[simp] theorem dropS_exc (e : Exn) (s : Sto) (env : Ev) : (R.exc e s).dropS env = .ok (.ex e env) s := rfl
@[simp] theorem sExpr_eq (e : EE) (env : Ev) (st : Sto) : sExpr e env st = (e env st).dropS env := rfl
def R.setS (r : R Val) (env : Ev) (i : Nat) : R Fl := r.bindS env fun v s => .ok (.nx (env.set i (some v))) s
@[simp] theorem setS_ok (v : Val) (s : Sto) (env : Ev) (i : Nat) : (R.ok v s).setS env i = .ok (.nx (env.set i (some v))) s := rfl
@[simp] theorem setS_exc (e : Exn) (s : Sto) (env : Ev) (i : Nat) : (R.exc e s).setS env i = .ok (.ex e env) s := rfl
@[simp] theorem sSet_eq (i : Nat) (e : EE) (env : Ev) (st : Sto) : sSet i e env st = (e env st).setS env i := rfl
def R.ifS (r : R Bool) (env : Ev) (a b : ES) : R Fl := r.bindS env fun v s => match v with
  | true => a env s
  | false => b env s
@[simp] theorem ifS_true (s : Sto) (env : Ev) (a b : ES) : (R.ok true s).ifS env a b = a env s := rfl
@[simp] theorem ifS_false (s : Sto) (env : Ev) (a b : ES) : (R.ok false s).ifS env a b = b env s := rfl
@[simp] theorem sIf_eq (t : ET) (a b : ES) (env : Ev) (st : Sto) : sIf t a b env st = (t env st).ifS env a b := rfl
@[simp] theorem eC_eq (x : D) (env : Ev) (st : Sto) : eC x env st = .ok (.d x) st := rfl
def R.op2 (r : R Val) (f : Val → Val → Sto → Option (Val × Sto)) (x : Val) : R Val := r.bind fun y s => R.of (f x y s)
def R.op1 (r : R Val) (f : Val → Val → Sto → Option (Val × Sto)) (b : EE) (env : Ev) : R Val := r.bind fun x s => (b env s).op2 f x
@[simp] theorem op2_ok (y : Val) (s : Sto) (f : Val → Val → Sto → Option (Val × Sto)) (x : Val) : (R.ok y s).op2 f x = R.of (f x y s) := rfl
@[simp] theorem op1_ok (x : Val) (s : Sto) (f : Val → Val → Sto → Option (Val × Sto)) (b : EE) (env : Ev) : (R.ok x s).op1 f b env = (b env s).op2 f x := rfl
@[simp] theorem eOp_eq (f : Val → Val → Sto → Option (Val × Sto)) (a b : EE) (env : Ev) (st : Sto) : eOp f a b env st = (a env st).op1 f b env := rfl
def R.tst (r : R Val) : R Bool := r.bind fun v s => match v with
  | .d (.bool b) => .ok b s
  | _ => .bad
@[simp] theorem tst_ok (b : Bool) (s : Sto) : (R.ok (.d (.bool b)) s).tst = .ok b s := rfl
@[simp] theorem eTst_eq (a : EE) (env : Ev) (st : Sto) : eTst a env st = (a env st).tst := rfl
@[simp] theorem aNil_eq (env : Ev) (st : Sto) : aNil env st = .ok [] st := rfl
def R.cons2 (r : R (List Val)) (x : Val) : R (List Val) := r.bind fun xs s => .ok (x :: xs) s
def R.cons1 (r : R Val) (b : EA) (env : Ev) : R (List Val) := r.bind fun x s => (b env s).cons2 x
@[simp] theorem cons2_ok (xs : List Val) (s : Sto) (x : Val) : (R.ok xs s).cons2 x = .ok (x :: xs) s := rfl
@[simp] theorem cons1_ok (x : Val) (s : Sto) (b : EA) (env : Ev) : (R.ok x s).cons1 b env = (b env s).cons2 x := rfl
@[simp] theorem aCons_eq (a : EE) (r : EA) (env : Ev) (st : Sto) : aCons a r env st = (a env st).cons1 r env := rfl
def R.cb (r : R (List Val)) (f : BF) : R Val := r.bind fun vs s => R.of (f vs s)
@[simp] theorem cb_ok (vs : List Val) (s : Sto) (f : BF) : (R.ok vs s).cb f = R.of (f vs s) := rfl
@[simp] theorem eCB_eq (f : BF) (a : EA) (env : Ev) (st : Sto) : eCB f a env st = (a env st).cb f := rfl
def R.cl (r : R (List Val)) (n : Nat) (f : FN) : R Val := r.bind fun vs s => if vs.length = n then f vs s else .bad
@[simp] theorem cl_ok (vs : List Val) (s : Sto) (n : Nat) (f : FN) : (R.ok vs s).cl n f = if vs.length = n then f vs s else .bad := rfl
@[simp] theorem eCl_eq (n : Nat) (f : FN) (a : EA) (env : Ev) (st : Sto) : eCl n f a env st = (a env st).cl n f := rfl
def R.getv (o : Option (Option Val)) (st : Sto) : R Val := match o with
  | some (some v) => .ok v st
  | _ => .bad
@[simp] theorem getv_ok (v : Val) (st : Sto) : R.getv (some (some v)) st = .ok v st := rfl
@[simp] theorem eVar_eq (i : Nat) (env : Ev) (st : Sto) : eVar i env st = R.getv env[i]? st := rfl
def R.kand (r : R Bool) (b : ET) (env : Ev) : R Bool := r.bind fun v s => match v with
  | true => b env s
  | false => .ok false s
@[simp] theorem kand_true (s : Sto) (b : ET) (env : Ev) : (R.ok true s).kand b env = b env s := rfl
@[simp] theorem kand_false (s : Sto) (b : ET) (env : Ev) : (R.ok false s).kand b env = .ok false s := rfl
@[simp] theorem kAnd_eq (a b : ET) (env : Ev) (st : Sto) : kAnd a b env st = (a env st).kand b env := rfl
def R.kor (r : R Bool) (b : ET) (env : Ev) : R Bool := r.bind fun v s => match v with
  | true => .ok true s
  | false => b env s
@[simp] theorem kor_true (s : Sto) (b : ET) (env : Ev) : (R.ok true s).kor b env = .ok true s := rfl
@[simp] theorem kor_false (s : Sto) (b : ET) (env : Ev) : (R.ok false s).kor b env = b env s := rfl
@[simp] theorem kOr_eq (a b : ET) (env : Ev) (st : Sto) : kOr a b env st = (a env st).kor b env := rfl
def R.knot (r : R Bool) : R Bool := r.bind fun v s => .ok (!v) s
@[simp] theorem knot_ok (b : Bool) (s : Sto) : (R.ok b s).knot = .ok (!b) s := rfl
@[simp] theorem kNot_eq (a : ET) (env : Ev) (st : Sto) : kNot a env st = (a env st).knot := rfl
@[simp] theorem kYes_eq (env : Ev) (st : Sto) : kYes env st = .ok true st := rfl
def R.ifE (r : R Bool) (env : Ev) (a b : EE) : R Val := r.bind fun v s => match v with
  | true => a env s
  | false => b env s
@[simp] theorem ifE_true (s : Sto) (env : Ev) (a b : EE) : (R.ok true s).ifE env a b = a env s := rfl
@[simp] theorem ifE_false (s : Sto) (env : Ev) (a b : EE) : (R.ok false s).ifE env a b = b env s := rfl
@[simp] theorem eIf_eq (t : ET) (a b : EE) (env : Ev) (st : Sto) : eIf t a b env st = (t env st).ifE env a b := rfl
def R.tup (r : R (List Val)) : R Val := r.bind fun vs s => match toDs vs s with
  | some (xs, s2) => if small xs.length = true then .ok (.d (.tuple xs)) s2 else .bad
  | none => .bad
@[simp] theorem tup_ok (vs : List Val) (s : Sto) : (R.ok vs s).tup = match toDs vs s with
  | some (xs, s2) => if small xs.length = true then .ok (.d (.tuple xs)) s2 else .bad
  | none => .bad := rfl
@[simp] theorem eTup_eq (a : EA) (env : Ev) (st : Sto) : eTup a env st = (a env st).tup := rfl
def R.lstD (r : R (List Val)) : R Val := r.bind fun vs s => match toDs vs s with
  | some (xs, s2) => if small xs.length = true then .ok (.d (.list xs)) s2 else .bad
  | none => .bad
@[simp] theorem lstD_ok (vs : List Val) (s : Sto) : (R.ok vs s).lstD = match toDs vs s with
  | some (xs, s2) => if small xs.length = true then .ok (.d (.list xs)) s2 else .bad
  | none => .bad := rfl
@[simp] theorem eLst_eq (a : EA) (env : Ev) (st : Sto) : eLst a env st = (a env st).lstD := rfl
def R.lstR (r : R (List Val)) : R Val := r.bind fun vs s => match toDs vs s with
  | some (xs, s2) => if small xs.length = true then .ok (.r s2.length) (s2 ++ [.lst xs]) else .bad
  | none => .bad
@[simp] theorem lstR_ok (vs : List Val) (s : Sto) : (R.ok vs s).lstR = match toDs vs s with
  | some (xs, s2) => if small xs.length = true then .ok (.r s2.length) (s2 ++ [.lst xs]) else .bad
  | none => .bad := rfl
@[simp] theorem eLstR_eq (a : EA) (env : Ev) (st : Sto) : eLstR a env st = (a env st).lstR := rfl
@[simp] theorem toDs_nil (st : Sto) : toDs [] st = some ([], st) := rfl
@[simp] theorem toDs_d (x : D) (vs : List Val) (st : Sto) : toDs (.d x :: vs) st = match toDs vs st with
  | some (xs, s2) => some (x :: xs, s2)
  | none => none := rfl
def R.isi (r : R Val) (T : String) : R Val := r.bind fun v s => match tyOf v s with
  | some t => (match kitB t T with
    | some b => .ok (.d (.bool b)) s
    | none => .bad)
  | none => .bad
@[simp] theorem isi_ok (v : Val) (s : Sto) (T : String) : (R.ok v s).isi T = match tyOf v s with
  | some t => (match kitB t T with
    | some b => .ok (.d (.bool b)) s
    | none => .bad)
  | none => .bad := rfl
@[simp] theorem eIsi_eq (T : String) (a : EE) (env : Ev) (st : Sto) : eIsi T a env st = (a env st).isi T := rfl
def R.notE (r : R Val) : R Val := r.bind fun v s => match v with
  | .d (.bool b) => .ok (.d (.bool (!b))) s
  | _ => .bad
@[simp] theorem notE_ok (b : Bool) (s : Sto) : (R.ok (.d (.bool b)) s).notE = .ok (.d (.bool (!b))) s := rfl
@[simp] theorem eNot_eq (a : EE) (env : Ev) (st : Sto) : eNot a env st = (a env st).notE := rfl
def R.andE (r : R Val) (b : EE) (env : Ev) : R Val := r.bind fun v s => match v with
  | .d (.bool true) => b env s
  | .d (.bool false) => .ok (.d (.bool false)) s
  | _ => .bad
@[simp] theorem andE_true (s : Sto) (b : EE) (env : Ev) : (R.ok (.d (.bool true)) s).andE b env = b env s := rfl
@[simp] theorem andE_false (s : Sto) (b : EE) (env : Ev) : (R.ok (.d (.bool false)) s).andE b env = .ok (.d (.bool false)) s := rfl
@[simp] theorem eAnd_eq (a b : EE) (env : Ev) (st : Sto) : eAnd a b env st = (a env st).andE b env := rfl
def R.orE (r : R Val) (b : EE) (env : Ev) : R Val := r.bind fun v s => match v with
  | .d (.bool true) => .ok (.d (.bool true)) s
  | .d (.bool false) => b env s
  | _ => .bad
@[simp] theorem orE_true (s : Sto) (b : EE) (env : Ev) : (R.ok (.d (.bool true)) s).orE b env = .ok (.d (.bool true)) s := rfl
@[simp] theorem orE_false (s : Sto) (b : EE) (env : Ev) : (R.ok (.d (.bool false)) s).orE b env = b env s := rfl
@[simp] theorem eOr_eq (a b : EE) (env : Ev) (st : Sto) : eOr a b env st = (a env st).orE b env := rfl
def R.ch3 (r : R Val) (g : Val → Val → Sto → Option (Val × Sto)) (y : Val) (c : EE) (env : Ev) : R Val := r.bind fun z s => match z with
  | .d (.bool true) => (c env s).op2 g y
  | .d (.bool false) => .ok (.d (.bool false)) s
  | _ => .bad
def R.ch2 (r : R Val) (f g : Val → Val → Sto → Option (Val × Sto)) (x : Val) (c : EE) (env : Ev) : R Val := r.bind fun y s => (R.of (f x y s)).ch3 g y c env
def R.ch1 (r : R Val) (f g : Val → Val → Sto → Option (Val × Sto)) (b c : EE) (env : Ev) : R Val := r.bind fun x s => (b env s).ch2 f g x c env
@[simp] theorem ch3_true (s : Sto) (g : Val → Val → Sto → Option (Val × Sto)) (y : Val) (c : EE) (env : Ev) : (R.ok (.d (.bool true)) s).ch3 g y c env = (c env s).op2 g y := rfl
@[simp] theorem ch3_false (s : Sto) (g : Val → Val → Sto → Option (Val × Sto)) (y : Val) (c : EE) (env : Ev) : (R.ok (.d (.bool false)) s).ch3 g y c env = .ok (.d (.bool false)) s := rfl
@[simp] theorem ch2_ok (y : Val) (s : Sto) (f g : Val → Val → Sto → Option (Val × Sto)) (x : Val) (c : EE) (env : Ev) : (R.ok y s).ch2 f g x c env = (R.of (f x y s)).ch3 g y c env := rfl
@[simp] theorem ch1_ok (x : Val) (s : Sto) (f g : Val → Val → Sto → Option (Val × Sto)) (b c : EE) (env : Ev) : (R.ok x s).ch1 f g b c env = (b env s).ch2 f g x c env := rfl
@[simp] theorem eChain_eq (f g : Val → Val → Sto → Option (Val × Sto)) (a b c : EE) (env : Ev) (st : Sto) : eChain f g a b c env st = (a env st).ch1 f g b c env := rfl
def R.parS (r : R (List Val)) (env : Ev) (is : List Nat) : R Fl := r.bindS env fun vs s => if vs.length = is.length then .ok (.nx (setVs is vs env)) s else .bad
@[simp] theorem parS_ok (vs : List Val) (s : Sto) (env : Ev) (is : List Nat) : (R.ok vs s).parS env is = if vs.length = is.length then .ok (.nx (setVs is vs env)) s else .bad := rfl
@[simp] theorem sParN_eq (is : List Nat) (ea : EA) (env : Ev) (st : Sto) : sParN is ea env st = (ea env st).parS env is := rfl
def R.listD (r : R (List D)) : R Val := r.bind fun ds s => .ok (.d (.list ds)) s
@[simp] theorem listD_ok (ds : List D) (s : Sto) : (R.ok ds s).listD = .ok (.d (.list ds)) s := rfl
def R.lcE (r : R (List D)) (vs : List Nat) (tg : Tg) (tt : ET) (ee : EE) (env : Ev) : R Val := r.bind fun xs s => if small xs.length = true then (compL tg tt ee (wipeE env vs) xs s).listD else .bad
@[simp] theorem lcE_ok (xs : List D) (s : Sto) (vs : List Nat) (tg : Tg) (tt : ET) (ee : EE) (env : Ev) : (R.ok xs s).lcE vs tg tt ee env = if small xs.length = true then (compL tg tt ee (wipeE env vs) xs s).listD else .bad := rfl
@[simp] theorem eLc_eq (vs : List Nat) (tg : Tg) (ei : EI) (tt : ET) (ee : EE) (env : Ev) (st : Sto) : eLc vs tg ei tt ee env st = (ei env st).lcE vs tg tt ee env := rfl
def R.seqI (r : R Val) : R (List D) := r.bind fun v s => match v with
  | .d (.list xs) => .ok xs s
  | .d (.tuple xs) => .ok xs s
  | _ => .bad
@[simp] theorem seqI_list (xs : List D) (s : Sto) : (R.ok (.d (.list xs)) s).seqI = .ok xs s := rfl
@[simp] theorem seqI_tuple (xs : List D) (s : Sto) : (R.ok (.d (.tuple xs)) s).seqI = .ok xs s := rfl
@[simp] theorem iSeq_eq (e : EE) (env : Ev) (st : Sto) : iSeq e env st = (e env st).seqI := rfl
def R.rangeI (r : R (List Val)) : R (List D) := r.bind fun vs s => match vs with
  | [.d (.int n)] => if -(2 ^ 62) ≤ n ∧ n ≤ 1000000 then .ok ((List.range n.toNat).map fun k => PyData.int (0 + (k : Nat))) s else .bad
  | _ => .bad
@[simp] theorem rangeI_ok (n : Int) (s : Sto) : (R.ok [.d (.int n)] s).rangeI = if -(2 ^ 62) ≤ n ∧ n ≤ 1000000 then .ok ((List.range n.toNat).map fun k => PyData.int (0 + (k : Nat))) s else .bad := rfl
@[simp] theorem iRange_eq (a : EA) (env : Ev) (st : Sto) : iRange a env st = (a env st).rangeI := rfl
def R.forS (r : R (List D)) (tg : Tg) (body : ES) (env : Ev) : R Fl := r.bindS env fun xs s => forL tg body xs env s
@[simp] theorem forS_ok (xs : List D) (s : Sto) (tg : Tg) (body : ES) (env : Ev) : (R.ok xs s).forS tg body env = forL tg body xs env s := rfl
@[simp] theorem sFor_eq (tg : Tg) (ei : EI) (body : ES) (env : Ev) (st : Sto) : sFor tg ei body env st = (ei env st).forS tg body env := rfl
def R.slS3 (r : R (Option Int)) (x : Val) (l : Option Int) : R Val := r.bind fun h s => R.of (vSl x l h s)
def R.slS2 (r : R (Option Int)) (x : Val) (hi : EO) (env : Ev) : R Val := r.bind fun l s => (hi env s).slS3 x l
def R.slS1 (r : R Val) (lo hi : EO) (env : Ev) : R Val := r.bind fun x s => (lo env s).slS2 x hi env
@[simp] theorem slS3_ok (h : Option Int) (s : Sto) (x : Val) (l : Option Int) : (R.ok h s).slS3 x l = R.of (vSl x l h s) := rfl
@[simp] theorem slS2_ok (l : Option Int) (s : Sto) (x : Val) (hi : EO) (env : Ev) : (R.ok l s).slS2 x hi env = (hi env s).slS3 x l := rfl
@[simp] theorem slS1_ok (x : Val) (s : Sto) (lo hi : EO) (env : Ev) : (R.ok x s).slS1 lo hi env = (lo env s).slS2 x hi env := rfl
@[simp] theorem eSl_eq (a : EE) (lo hi : EO) (env : Ev) (st : Sto) : eSl a lo hi env st = (a env st).slS1 lo hi env := rfl
@[simp] theorem oNone_eq (env : Ev) (st : Sto) : oNone env st = .ok none st := rfl
def R.oS (r : R Val) : R (Option Int) := r.bind fun v s => match v with
  | .d (.int i) => .ok (some i) s
  | _ => .bad
@[simp] theorem oS_ok (i : Int) (s : Sto) : (R.ok (.d (.int i)) s).oS = .ok (some i) s := rfl
@[simp] theorem oSome_eq (a : EE) (env : Ev) (st : Sto) : oSome a env st = (a env st).oS := rfl
def R.setTS (r : R Val) (env : Ev) (tg : Tg) : R Fl := r.bindS env fun v s => match v with
  | .d d => (match tg.put d env with
    | some env' => .ok (.nx env') s
    | none => .bad)
  | _ => .bad
@[simp] theorem setTS_ok (d : D) (s : Sto) (env : Ev) (tg : Tg) : (R.ok (.d d) s).setTS env tg = match tg.put d env with
    | some env' => .ok (.nx env') s
    | none => .bad := rfl
@[simp] theorem sSetT_eq (tg : Tg) (e : EE) (env : Ev) (st : Sto) : sSetT tg e env st = (e env st).setTS env tg := rfl
def R.starS (r : R Val) (env : Ev) (i j : Nat) : R Fl := r.bindS env fun v s => match v with
  | .d (.tuple (x :: xs)) => .ok (.nx ((env.set i (some (.d x))).set j (some (.d (.list xs))))) s
  | _ => .bad
@[simp] theorem starS_ok (x : D) (xs : List D) (s : Sto) (env : Ev) (i j : Nat) : (R.ok (.d (.tuple (x :: xs))) s).starS env i j = .ok (.nx ((env.set i (some (.d x))).set j (some (.d (.list xs))))) s := rfl
@[simp] theorem sStar_eq (i j : Nat) (e : EE) (env : Ev) (st : Sto) : sStar i j e env st = (e env st).starS env i j := rfl
def R.app2 (r : R Val) (i : Nat) : R Val := r.bind fun u s2 => (match toD u s2 with
      | some (x, s3) => (match s3[i]? with
        | some (.lst xs) => if xs.length < 1000000 then .ok (.d .none) (s3.set i (.lst (xs ++ [x]))) else .bad
        | _ => .bad)
      | none => .bad)
def R.app1 (r : R Val) (a : EE) (env : Ev) : R Val := r.bind fun v s1 => match v with
  | .r i => (match s1[i]? with
    | some (.lst _) => (a env s1).app2 i
    | _ => .bad)
  | _ => .bad
@[simp] theorem app2_ok (x : D) (s : Sto) (i : Nat) : (R.ok (.d x) s).app2 i = match s[i]? with
        | some (.lst xs) => if xs.length < 1000000 then .ok (.d .none) (s.set i (.lst (xs ++ [x]))) else .bad
        | _ => .bad := rfl
@[simp] theorem app1_ok (i : Nat) (s : Sto) (a : EE) (env : Ev) : (R.ok (.r i) s).app1 a env = match s[i]? with
    | some (.lst _) => (a env s).app2 i
    | _ => .bad := rfl
@[simp] theorem eAppend_eq (o a : EE) (env : Ev) (st : Sto) : eAppend o a env st = (o env st).app1 a env := rfl
def R.negE (r : R Val) : R Val := r.bind fun v s => match v with
  | .d (.int i) => .ok (.d (.int (-i))) s
  | _ => .bad
@[simp] theorem negE_ok (i : Int) (s : Sto) : (R.ok (.d (.int i)) s).negE = .ok (.d (.int (-i))) s := rfl
@[simp] theorem eNeg_eq (a : EE) (env : Ev) (st : Sto) : eNeg a env st = (a env st).negE := rfl
def R.fin0 (r : R Fl) (n : Nat) : R Val := match r with
    | .ok (.nx _) s => fin n (.d .none) s
    | .ok (.rt v) s => fin n v s
    | .ok (.ex e _) s => if insOk n (s.take n) = true then .exc e (s.take n) else .bad
    | _ => .bad
@[simp] theorem fin0_nx (e : Ev) (s : Sto) (n : Nat) : (R.ok (.nx e) s).fin0 n = fin n (.d .none) s := rfl
@[simp] theorem fin0_rt (v : Val) (s : Sto) (n : Nat) : (R.ok (.rt v) s).fin0 n = fin n v s := rfl
theorem runF_eq (N np : Nat) (ev : ES) (as : List Val) (st : Sto) (h : as.length = np) : runF N np ev as st = (ev (as.map some ++ List.replicate (N - np) none) st).fin0 st.length := by
  unfold runF
  rw [if_pos h]; rfl
@[simp] theorem noX_ok {α : Type} (a : α) (s : Sto) : noX (R.ok a s) = R.ok a s := rfl
end
/-- no objects of own classes in the store -/
def Okk (st : Sto) : Prop := insOk st.length st = true
@[simp] theorem fin_d (st : Sto) (h : Okk st) (x : D) : fin st.length (.d x) st = .ok (.d x) st := by
  unfold fin
  rw [List.take_length, if_pos (show insOk _ _ = true from h)]
theorem insOk_mono {n k : Nat} (h : n ≤ k) : ∀ {st : Sto}, insOk n st = true → insOk k st = true
  | [], _ => rfl
  | .lst _ :: r, q => insOk_mono h (st := r) q
  | .dct _ :: r, q => insOk_mono h (st := r) q
  | .gone :: r, q => insOk_mono h (st := r) q
  | .ins c fs :: r, q => by
    simp only [insOk, Bool.and_eq_true, List.all_eq_true] at q ⊢
    refine ⟨fun x hx => ?_, insOk_mono h q.2⟩
    have := q.1 x hx
    split at this <;> simp_all
    omega
/-- a comprehension whose parts leave the store as it is -/
theorem compL_map {tg : Tg} {tt : ET} {ee : EE} {env : Ev} {st : Sto} (g : D → D) : ∀ {xs : List D}, (∀ x ∈ xs, ∃ e1, tg.put x env = some e1 ∧ tt e1 st = .ok true st ∧ ee e1 st = .ok (.d (g x)) st) → compL tg tt ee env xs st = .ok (xs.map g) st
  | [], _ => rfl
  | x :: xs, h => by
    obtain ⟨e1, h1, h2, h3⟩ := h x List.mem_cons_self
    have ih := compL_map g (xs := xs) fun y hy => h y (List.mem_cons_of_mem _ hy)
    simp [compL, h1, h2, h3, toD, ih]
theorem compL_filter {tg : Tg} {tt : ET} {ee : EE} {env : Ev} {st : Sto} (p : D → Bool) (g : D → D) : ∀ {xs : List D}, (∀ x ∈ xs, ∃ e1, tg.put x env = some e1 ∧ tt e1 st = .ok (p x) st ∧ (p x = true → ee e1 st = .ok (.d (g x)) st)) → compL tg tt ee env xs st = .ok ((xs.filter p).map g) st
  | [], _ => rfl
  | x :: xs, h => by
    obtain ⟨e1, h1, h2, h3⟩ := h x List.mem_cons_self
    have ih := compL_filter p g (xs := xs) fun y hy => h y (List.mem_cons_of_mem _ hy)
    cases hp : p x with
    | false => simp [compL, h1, h2, hp, ih]
    | true => simp [compL, h1, h2, hp, h3 hp, toD, ih]

/-! ### words -/
@[simp] theorem w_fact_after : (("fact" : Str) == ("after" : Str)) = false := by decide +kernel
@[simp] theorem w_fact_holds : (("fact" : Str) == ("holds" : Str)) = false := by decide +kernel
@[simp] theorem w_fact_may : (("fact" : Str) == ("may" : Str)) = false := by decide +kernel
@[simp] theorem w_fact_and : (("fact" : Str) == ("and" : Str)) = false := by decide +kernel
@[simp] theorem w_fact_or : (("fact" : Str) == ("or" : Str)) = false := by decide +kernel
@[simp] theorem w_fact_not : (("fact" : Str) == ("not" : Str)) = false := by decide +kernel
@[simp] theorem w_fact_all : (("fact" : Str) == ("all" : Str)) = false := by decide +kernel
@[simp] theorem w_fact_common : (("fact" : Str) == ("common" : Str)) = false := by decide +kernel
@[simp] theorem w_after_fact : (("after" : Str) == ("fact" : Str)) = false := by decide +kernel
@[simp] theorem w_after_holds : (("after" : Str) == ("holds" : Str)) = false := by decide +kernel
@[simp] theorem w_after_may : (("after" : Str) == ("may" : Str)) = false := by decide +kernel
@[simp] theorem w_after_and : (("after" : Str) == ("and" : Str)) = false := by decide +kernel
@[simp] theorem w_after_or : (("after" : Str) == ("or" : Str)) = false := by decide +kernel
@[simp] theorem w_after_not : (("after" : Str) == ("not" : Str)) = false := by decide +kernel
@[simp] theorem w_after_all : (("after" : Str) == ("all" : Str)) = false := by decide +kernel
@[simp] theorem w_after_common : (("after" : Str) == ("common" : Str)) = false := by decide +kernel
@[simp] theorem w_holds_fact : (("holds" : Str) == ("fact" : Str)) = false := by decide +kernel
@[simp] theorem w_holds_after : (("holds" : Str) == ("after" : Str)) = false := by decide +kernel
@[simp] theorem w_holds_may : (("holds" : Str) == ("may" : Str)) = false := by decide +kernel
@[simp] theorem w_holds_and : (("holds" : Str) == ("and" : Str)) = false := by decide +kernel
@[simp] theorem w_holds_or : (("holds" : Str) == ("or" : Str)) = false := by decide +kernel
@[simp] theorem w_holds_not : (("holds" : Str) == ("not" : Str)) = false := by decide +kernel
@[simp] theorem w_holds_all : (("holds" : Str) == ("all" : Str)) = false := by decide +kernel
@[simp] theorem w_holds_common : (("holds" : Str) == ("common" : Str)) = false := by decide +kernel
@[simp] theorem w_may_fact : (("may" : Str) == ("fact" : Str)) = false := by decide +kernel
@[simp] theorem w_may_after : (("may" : Str) == ("after" : Str)) = false := by decide +kernel
@[simp] theorem w_may_holds : (("may" : Str) == ("holds" : Str)) = false := by decide +kernel
@[simp] theorem w_may_and : (("may" : Str) == ("and" : Str)) = false := by decide +kernel
@[simp] theorem w_may_or : (("may" : Str) == ("or" : Str)) = false := by decide +kernel
@[simp] theorem w_may_not : (("may" : Str) == ("not" : Str)) = false := by decide +kernel
@[simp] theorem w_may_all : (("may" : Str) == ("all" : Str)) = false := by decide +kernel
@[simp] theorem w_may_common : (("may" : Str) == ("common" : Str)) = false := by decide +kernel
@[simp] theorem w_and_fact : (("and" : Str) == ("fact" : Str)) = false := by decide +kernel
@[simp] theorem w_and_after : (("and" : Str) == ("after" : Str)) = false := by decide +kernel
@[simp] theorem w_and_holds : (("and" : Str) == ("holds" : Str)) = false := by decide +kernel
@[simp] theorem w_and_may : (("and" : Str) == ("may" : Str)) = false := by decide +kernel
@[simp] theorem w_and_or : (("and" : Str) == ("or" : Str)) = false := by decide +kernel
@[simp] theorem w_and_not : (("and" : Str) == ("not" : Str)) = false := by decide +kernel
@[simp] theorem w_and_all : (("and" : Str) == ("all" : Str)) = false := by decide +kernel
@[simp] theorem w_and_common : (("and" : Str) == ("common" : Str)) = false := by decide +kernel
@[simp] theorem w_or_fact : (("or" : Str) == ("fact" : Str)) = false := by decide +kernel
@[simp] theorem w_or_after : (("or" : Str) == ("after" : Str)) = false := by decide +kernel
@[simp] theorem w_or_holds : (("or" : Str) == ("holds" : Str)) = false := by decide +kernel
@[simp] theorem w_or_may : (("or" : Str) == ("may" : Str)) = false := by decide +kernel
@[simp] theorem w_or_and : (("or" : Str) == ("and" : Str)) = false := by decide +kernel
@[simp] theorem w_or_not : (("or" : Str) == ("not" : Str)) = false := by decide +kernel
@[simp] theorem w_or_all : (("or" : Str) == ("all" : Str)) = false := by decide +kernel
@[simp] theorem w_or_common : (("or" : Str) == ("common" : Str)) = false := by decide +kernel
@[simp] theorem w_not_fact : (("not" : Str) == ("fact" : Str)) = false := by decide +kernel
@[simp] theorem w_not_after : (("not" : Str) == ("after" : Str)) = false := by decide +kernel
@[simp] theorem w_not_holds : (("not" : Str) == ("holds" : Str)) = false := by decide +kernel
@[simp] theorem w_not_may : (("not" : Str) == ("may" : Str)) = false := by decide +kernel
@[simp] theorem w_not_and : (("not" : Str) == ("and" : Str)) = false := by decide +kernel
@[simp] theorem w_not_or : (("not" : Str) == ("or" : Str)) = false := by decide +kernel
@[simp] theorem w_not_all : (("not" : Str) == ("all" : Str)) = false := by decide +kernel
@[simp] theorem w_not_common : (("not" : Str) == ("common" : Str)) = false := by decide +kernel
@[simp] theorem w_all_fact : (("all" : Str) == ("fact" : Str)) = false := by decide +kernel
@[simp] theorem w_all_after : (("all" : Str) == ("after" : Str)) = false := by decide +kernel
@[simp] theorem w_all_holds : (("all" : Str) == ("holds" : Str)) = false := by decide +kernel
@[simp] theorem w_all_may : (("all" : Str) == ("may" : Str)) = false := by decide +kernel
@[simp] theorem w_all_and : (("all" : Str) == ("and" : Str)) = false := by decide +kernel
@[simp] theorem w_all_or : (("all" : Str) == ("or" : Str)) = false := by decide +kernel
@[simp] theorem w_all_not : (("all" : Str) == ("not" : Str)) = false := by decide +kernel
@[simp] theorem w_all_common : (("all" : Str) == ("common" : Str)) = false := by decide +kernel
@[simp] theorem w_common_fact : (("common" : Str) == ("fact" : Str)) = false := by decide +kernel
@[simp] theorem w_common_after : (("common" : Str) == ("after" : Str)) = false := by decide +kernel
@[simp] theorem w_common_holds : (("common" : Str) == ("holds" : Str)) = false := by decide +kernel
@[simp] theorem w_common_may : (("common" : Str) == ("may" : Str)) = false := by decide +kernel
@[simp] theorem w_common_and : (("common" : Str) == ("and" : Str)) = false := by decide +kernel
@[simp] theorem w_common_or : (("common" : Str) == ("or" : Str)) = false := by decide +kernel
@[simp] theorem w_common_not : (("common" : Str) == ("not" : Str)) = false := by decide +kernel
@[simp] theorem w_common_all : (("common" : Str) == ("all" : Str)) = false := by decide +kernel
@[simp] theorem eqv_int (i j : Int) : PyData.eqv (.int i) (.int j) = (i == j) := rfl
@[simp] theorem eqv_str (i j : Str) : PyData.eqv (.str i) (.str j) = (i == j) := rfl
@[simp] theorem eqv_tn (xs : List D) : PyData.eqv (.tuple xs) .none = false := rfl
@[simp] theorem eqv_t0 (x : D) (xs : List D) : PyData.eqv (.tuple (x :: xs)) (.tuple []) = false := rfl
@[simp] theorem fits_int (i j : Int) : fits (.int i) (.int j) = true := by simp [fits, PyData.plain, PyData.depth]
@[simp] theorem fits_str (i j : Str) : fits (.str i) (.str j) = true := by simp [fits, PyData.plain, PyData.depth]
@[simp] theorem plain_int (i : Int) : PyData.plain (.int i) = true := rfl
@[simp] theorem plain_str (i : Str) : PyData.plain (.str i) = true := rfl
@[simp] theorem plain_tup (xs : List D) : PyData.plain (.tuple xs) = PyData.plainAll xs := rfl
@[simp] theorem plain_lst (xs : List D) : PyData.plain (.list xs) = PyData.plainAll xs := rfl
@[simp] theorem plainAll_nil : PyData.plainAll [] = true := rfl
@[simp] theorem plainAll_cons (x : D) (xs : List D) : PyData.plainAll (x :: xs) = (PyData.plain x && PyData.plainAll xs) := rfl
@[simp] theorem depth_int (x : Int) : PyData.depth (.int x) = 0 := rfl
@[simp] theorem depth_str (x : Str) : PyData.depth (.str x) = 0 := rfl
@[simp] theorem depth_non : PyData.depth .none = 0 := rfl
@[simp] theorem depth_bool (x : Bool) : PyData.depth (.bool x) = 0 := rfl
@[simp] theorem plain_non : PyData.plain .none = true := rfl
@[simp] theorem plain_bool (x : Bool) : PyData.plain (.bool x) = true := rfl
@[simp] theorem depth_tup0 : PyData.depth (.tuple []) = 1 := rfl
end Mi
end

section
set_option maxRecDepth 100000
set_option autoImplicit false
namespace Mi
open PySem PySem.Spec L2
def R.zipI (r : R (List Val)) : R (List D) := r.bind fun vs s => match zipOf vs with
  | some xs => .ok xs s
  | none => .bad
@[simp] theorem zipI_tup (xs ys : List D) (s : Sto) : (R.ok [.d (.tuple xs), .d (.tuple ys)] s).zipI = .ok (zipD xs ys) s := rfl
@[simp] theorem zipI_lst (xs ys : List D) (s : Sto) : (R.ok [.d (.list xs), .d (.list ys)] s).zipI = .ok (zipD xs ys) s := rfl
@[simp] theorem iZip_eq (a : EA) (env : Ev) (st : Sto) : iZip a env st = (a env st).zipI := rfl
def R.lc2D (r : R (List D)) : R Val := r.bind fun ds s2 => if small ds.length = true then .ok (.d (.list ds)) s2 else .bad
@[simp] theorem lc2D_ok (ds : List D) (s : Sto) : (R.ok ds s).lc2D = if small ds.length = true then .ok (.d (.list ds)) s else .bad := rfl
def R.lc2E (r : R (List D)) (vs vs1 : List Nat) (tg : Tg) (tt : ET) (tg1 : Tg) (ei1 : EI) (tt1 : ET) (ee : EE) (env : Ev) : R Val := r.bind fun xs s => (compL2 tg tt ei1 vs1 tg1 tt1 ee (wipeE env vs) xs s).lc2D
@[simp] theorem lc2E_ok (xs : List D) (s : Sto) (vs vs1 : List Nat) (tg : Tg) (tt : ET) (tg1 : Tg) (ei1 : EI) (tt1 : ET) (ee : EE) (env : Ev) : (R.ok xs s).lc2E vs vs1 tg tt tg1 ei1 tt1 ee env = (compL2 tg tt ei1 vs1 tg1 tt1 ee (wipeE env vs) xs s).lc2D := rfl
@[simp] theorem eLc2_eq (vs vs1 : List Nat) (tg : Tg) (ei : EI) (tt : ET) (tg1 : Tg) (ei1 : EI) (tt1 : ET) (ee : EE) (env : Ev) (st : Sto) : eLc2 vs vs1 tg ei tt tg1 ei1 tt1 ee env st = (ei env st).lc2E vs vs1 tg tt tg1 ei1 tt1 ee env := rfl
theorem boolsOf_mp {α : Type} (f : α → Bool) : ∀ xs : List α, boolsOf (xs.map fun x => PyData.bool (f x)) = some (xs.map f)
  | [] => rfl
  | x :: xs => by simp [boolsOf, boolsOf_mp f xs]
theorem intsOf_mp {α : Type} (f : α → Int) : ∀ xs : List α, intsOf (xs.map fun x => PyData.int (f x)) = some (xs.map f)
  | [] => rfl
  | x :: xs => by simp [intsOf, intsOf_mp f xs]
theorem compL2_map {tg tg1 : Tg} {tt tt1 : ET} {ei1 : EI} {vs1 : List Nat} {ee : EE} {env : Ev} {st : Sto} (g : D → List D) : ∀ {xs : List D}, (∀ x ∈ xs, ∃ e1 ys, tg.put x env = some e1 ∧ tt e1 st = .ok true st ∧ ei1 e1 st = .ok ys st ∧ compL tg1 tt1 ee (wipeE e1 vs1) ys st = .ok (g x) st) → compL2 tg tt ei1 vs1 tg1 tt1 ee env xs st = .ok (xs.flatMap g) st
  | [], _ => rfl
  | x :: xs, h => by
    obtain ⟨e1, ys, h1, h2, h3, h4⟩ := h x List.mem_cons_self
    have ih := compL2_map g (xs := xs) fun y hy => h y (List.mem_cons_of_mem _ hy)
    simp [compL2, h1, h2, h3, h4, ih, R.bind]
@[simp] theorem cut_1 {α : Type} (xs : List α) : cut xs (some 1) none = xs.drop 1 := by
  have h : HT.sIx xs.length 0 (some 1) = min 1 xs.length := rfl
  unfold cut
  rw [h]
  cases xs with
  | nil => rfl
  | cons x xs => simp [HT.sIx]
/-- the greatest -/
theorem maxI_nat : ∀ (r : List Nat) (a : Nat), maxI a (r.map fun x : Nat => (x : Int)) = ((r.foldl max a : Nat) : Int)
  | [], a => rfl
  | b :: r, a => by
    have h : (if (a : Int) < (b : Int) then (b : Int) else a) = ((max a b : Nat) : Int) := by split <;> omega
    simp only [List.map_cons, maxI, List.foldl_cons, h, maxI_nat r]
@[simp] theorem small_le (n : Nat) (h : n ≤ 1000000) : small n = true := by simp [small, h]
/-- the same over mirrors: each thing's data, and what becomes of it -/
theorem compL_mp {α : Type} {tg : Tg} {tt : ET} {ee : EE} {env : Ev} {st : Sto} (f g : α → D) : ∀ (xs : List α), (∀ x ∈ xs, ∃ e1, tg.put (f x) env = some e1 ∧ tt e1 st = .ok true st ∧ ee e1 st = .ok (.d (g x)) st) → compL tg tt ee env (xs.map f) st = .ok (xs.map g) st
  | [], _ => rfl
  | x :: xs, h => by
    obtain ⟨e1, h1, h2, h3⟩ := h x List.mem_cons_self
    have ih := compL_mp f g xs fun y hy => h y (List.mem_cons_of_mem _ hy)
    simp [compL, h1, h2, h3, toD, ih]
theorem compL_fl {α : Type} {tg : Tg} {tt : ET} {ee : EE} {env : Ev} {st : Sto} (f : α → D) (p : α → Bool) (g : α → D) : ∀ (xs : List α), (∀ x ∈ xs, ∃ e1, tg.put (f x) env = some e1 ∧ tt e1 st = .ok (p x) st ∧ (p x = true → ee e1 st = .ok (.d (g x)) st)) → compL tg tt ee env (xs.map f) st = .ok ((xs.filter p).map g) st
  | [], _ => rfl
  | x :: xs, h => by
    obtain ⟨e1, h1, h2, h3⟩ := h x List.mem_cons_self
    have ih := compL_fl f p g xs fun y hy => h y (List.mem_cons_of_mem _ hy)
    cases hp : p x with
    | false => simp [compL, h1, h2, hp, ih]
    | true => simp [compL, h1, h2, hp, h3 hp, toD, ih]
theorem compL2_mp {α : Type} {tg tg1 : Tg} {tt tt1 : ET} {ei1 : EI} {vs1 : List Nat} {ee : EE} {env : Ev} {st : Sto} (f : α → D) (g : α → List D) : ∀ (xs : List α), (∀ x ∈ xs, ∃ e1 ys, tg.put (f x) env = some e1 ∧ tt e1 st = .ok true st ∧ ei1 e1 st = .ok ys st ∧ compL tg1 tt1 ee (wipeE e1 vs1) ys st = .ok (g x) st) → compL2 tg tt ei1 vs1 tg1 tt1 ee env (xs.map f) st = .ok (xs.flatMap g) st
  | [], _ => rfl
  | x :: xs, h => by
    obtain ⟨e1, ys, h1, h2, h3, h4⟩ := h x List.mem_cons_self
    have ih := compL2_mp f g xs fun y hy => h y (List.mem_cons_of_mem _ hy)
    simp [compL2, h1, h2, h3, h4, ih, R.bind]
theorem bAll_mp {α : Type} (f : α → Bool) (xs : List α) (st : Sto) : bAll [.d (.list (xs.map fun x => .bool (f x)))] st = some (.d (.bool (xs.all f)), st) := by
  simp only [bAll, lsOf, boolsOf_mp, Option.map_some, List.all_map]
  rfl
theorem bAny_mp {α : Type} (f : α → Bool) (xs : List α) (st : Sto) : bAny [.d (.list (xs.map fun x => .bool (f x)))] st = some (.d (.bool (xs.any f)), st) := by
  simp only [bAny, lsOf, boolsOf_mp, Option.map_some, List.any_map]
  rfl
theorem zipD_mp {α β : Type} (f : α → D) (g : β → D) : ∀ (l : List α) (r : List β), zipD (l.map f) (r.map g) = (l.zip r).map fun p => .tuple [f p.1, g p.2]
  | [], _ => rfl
  | a :: l, [] => rfl
  | a :: l, b :: r => by
    have := zipD_mp f g l r
    simp only [zipD] at this
    simp [zipD, this]
end Mi
end

section
set_option maxRecDepth 100000
set_option maxHeartbeats 4000000
namespace Lw
open PySem PySem.Spec L2 Mi
def top (i : Nat) : Stmt := PySem.Challenge.pw_mindsteps_k10_whole_usual_deeds.main.body.getD i (.Pass ⟨0, 0, 0, 0⟩)
structure Tb (cl : Nat → Addr) (P : Program) (w : World) (K : PySem.W.Frag) (mg : Str → Option Value) (base : Heap) (k : Nat) (F : Nat → FN) : Prop where
  f_is_whole : FokP cl P w K mg base k "is_whole" 3 (F 0)
  f_are_numbers : FokP cl P w K mg base k "are_numbers" 2 (F 1)
  f_are_views : FokP cl P w K mg base k "are_views" 3 (F 2)
  f_sizes_of : FokP cl P w K mg base k "sizes_of" 1 (F 3)
  f_size_of : FokP cl P w K mg base k "size_of" 3 (F 4)
  f_size_after : FokP cl P w K mg base k "size_after" 3 (F 5)
  f_size_of_event : FokP cl P w K mg base k "size_of_event" 3 (F 6)
  f_size_of_deed : FokP cl P w K mg base k "size_of_deed" 3 (F 7)
  f_good_deed : FokP cl P w K mg base k "good_deed" 3 (F 8)
  f_is_deed : FokP cl P w K mg base k "is_deed" 3 (F 9)
  f_need_minds : FokP cl P w K mg base k "need_minds" 1 (F 10)
  f_need_some : FokP cl P w K mg base k "need_some" 2 (F 11)
  f_need_fact : FokP cl P w K mg base k "need_fact" 1 (F 12)
  f_need_inner : FokP cl P w K mg base k "need_inner" 3 (F 13)
  f_for_each : FokP cl P w K mg base k "for_each" 4 (F 14)
  f_aloud : FokP cl P w K mg base k "aloud" 2 (F 15)
  f_told_some : FokP cl P w K mg base k "told_some" 3 (F 16)
  f_whisper : FokP cl P w K mg base k "whisper" 3 (F 17)
  f_whispered : FokP cl P w K mg base k "whispered" 3 (F 18)
  f_looked : FokP cl P w K mg base k "looked" 3 (F 19)
  f_lied : FokP cl P w K mg base k "lied" 3 (F 20)
  f_become : FokP cl P w K mg base k "become" 3 (F 21)
  f__law_cell_at : FokP cl P w K mg base k "_law_cell_at" 2 (F 22)
  f__law_mixed : FokP cl P w K mg base k "_law_mixed" 3 (F 23)
  f__law_draw : FokP cl P w K mg base k "_law_draw" 3 (F 24)
  f__law_pick : FokP cl P w K mg base k "_law_pick" 3 (F 25)
  f__law_plain : FokP cl P w K mg base k "_law_plain" 5 (F 26)
  f_law : FokP cl P w K mg base k "law" 1 (F 27)
structure Cs (C : RC) (mg : Str → Option Value) : Prop where
  c_DEEP : GC C mg "DEEP" (.int 12)
  c_AFTER : GC C mg "AFTER" (.int 3)
  c_EVENTS : GC C mg "EVENTS" (.int 5)
  c_FACTS : GC C mg "FACTS" (.int 4)
  c_ALWAYS : GC C mg "ALWAYS" (.tuple [(.str "or"), (.tuple [(.str "fact"), (.int 0)]), (.tuple [(.str "not"), (.tuple [(.str "fact"), (.int 0)])])])
section
variable {cl : Nat → Addr} {P : Program} {w : World} {K : PySem.W.Frag} {mg : Str → Option Value} {base : Heap} {k : Nat} {F : Nat → FN} {fa : Addr}
def m_is_whole (F : Nat → FN) : ES :=
  (sRet (eAnd (eIsi "int" (eVar 0)) (eAnd (eNot (eIsi "bool" (eVar 0))) (eChain (pur2 (dI iLe)) (pur2 (dI iLe)) (eVar 1) (eVar 0) (eVar 2)))))
theorem sc_is_whole : FnScope ["thing", "low", "high"] ["thing", "low", "high"] (defScope (top 7)) := ⟨rfl, rfl, rfl, by decide +kernel, rfl, by decide +kernel, by decide +kernel⟩
theorem b_is_whole (T : Tb cl P w K mg base k F) (B : Bl mg) (C : Cs ⟨K, w, cl⟩ mg) (cdv : Value) (A : Around) (outer : List Env) (s : Shared) (H : Hp) (E : XK) (hr : Room k (cxOf (L2.CX P w) P w K mg base ["thing", "low", "high"] "is_whole" (defScope (top 7)) fa cdv A outer s H E).A) (tk : Takes (cxOf (L2.CX P w) P w K mg base ["thing", "low", "high"] "is_whole" (defScope (top 7)) fa cdv A outer s H E) (fun cls d _ H' => E cls d H')) (hp : PassesOwn (model P w) (cxOf (L2.CX P w) P w K mg base ["thing", "low", "high"] "is_whole" (defScope (top 7)) fa cdv A outer s H E).A (cxOf (L2.CX P w) P w K mg base ["thing", "low", "high"] "is_whole" (defScope (top 7)) fa cdv A outer s H E).env (cxOf (L2.CX P w) P w K mg base ["thing", "low", "high"] "is_whole" (defScope (top 7)) fa cdv A outer s H E).xe) :
    SSs cl (cxOf (L2.CX P w) P w K mg base ["thing", "low", "high"] "is_whole" (defScope (top 7)) fa cdv A outer s H E) (fun cls d _ H' => E cls d H') (defBody (top 7)) (m_is_whole F) := by
  have hu := units_of hr
  exact (ss_one (ss_ret (se_and (se_isi (se_var 0) (by rfl) B.isinstance_ (by rfl) B.int_ bb_int) (se_and (se_not (se_isi (se_var 0) (by rfl) B.isinstance_ (by rfl) B.bool_ bb_bool)) (se_one (se_chain o_le o_le (se_var 1) (se_var 0) (se_var 2)))))))
def m_are_numbers (F : Nat → FN) : ES :=
  (sSeq (sIf (kOr (kNot (eTst (eIsi "tuple" (eVar 0)))) (kNot (eTst (eCB bAll (aCons (eLc [2] (.nm 2) (iSeq (eVar 0)) kYes (eCl 3 (F 0) (aCons (eVar 2) (aCons (eC (.int 0)) (aCons (eOp (pur2 (dI iSub)) (eVar 1) (eC (.int 1))) aNil))))) aNil))))) (sRet (eC (.bool false))) sNx)
    (sRet (eCB bAll (aCons (eLc [2, 3] (.tp [2, 3]) (iZip (aCons (eVar 0) (aCons (eSl (eVar 0) (oSome (eC (.int 1))) oNone) aNil))) kYes (eOp (pur2 (dI iLt)) (eVar 2) (eVar 3))) aNil))))
theorem sc_are_numbers : FnScope ["thing", "many", "one", "other"] ["thing", "many"] (defScope (top 8)) := ⟨rfl, rfl, rfl, by decide +kernel, rfl, by decide +kernel, by decide +kernel⟩
theorem b_are_numbers (T : Tb cl P w K mg base k F) (B : Bl mg) (C : Cs ⟨K, w, cl⟩ mg) (cdv : Value) (A : Around) (outer : List Env) (s : Shared) (H : Hp) (E : XK) (hr : Room k (cxOf (L2.CX P w) P w K mg base ["thing", "many", "one", "other"] "are_numbers" (defScope (top 8)) fa cdv A outer s H E).A) (tk : Takes (cxOf (L2.CX P w) P w K mg base ["thing", "many", "one", "other"] "are_numbers" (defScope (top 8)) fa cdv A outer s H E) (fun cls d _ H' => E cls d H')) (hp : PassesOwn (model P w) (cxOf (L2.CX P w) P w K mg base ["thing", "many", "one", "other"] "are_numbers" (defScope (top 8)) fa cdv A outer s H E).A (cxOf (L2.CX P w) P w K mg base ["thing", "many", "one", "other"] "are_numbers" (defScope (top 8)) fa cdv A outer s H E).env (cxOf (L2.CX P w) P w K mg base ["thing", "many", "one", "other"] "are_numbers" (defScope (top 8)) fa cdv A outer s H E).xe) :
    SSs cl (cxOf (L2.CX P w) P w K mg base ["thing", "many", "one", "other"] "are_numbers" (defScope (top 8)) fa cdv A outer s H E) (fun cls d _ H' => E cls d H') (defBody (top 8)) (m_are_numbers F) := by
  have hu := units_of hr
  exact (ss_cons (ss_if (st_bool (sw_or (st_not (st_val (se_isi (se_var 0) (by rfl) B.isinstance_ (by rfl) B.tuple_ bb_tuple))) (sw_one_or (st_not (st_val (se_callB (c_all rfl) (by rfl) B.all_ bb_all (sa_cons (se_lc (own := [("one", 2)]) rfl sc_are_numbers.nd (si_seq (se_var 0)) (blkOk_by (by kernel_rfl)) (fun _ _ _ _ _ => (sg_name 2 sc_are_numbers.nd (by rfl) (by first | exact Or.inl rfl | exact Or.inr rfl))) (fun _ _ _ _ _ => sts_nil) (fun _ _ _ _ _ => (se_cl T.f_is_whole hr takes0 (by rfl) (sa_cons (se_var 2) (sa_cons se_int (sa_cons (se_op o_sub (se_var 1) se_int) sa_nil))))) (by decide)) sa_nil))))))) (ss_one (ss_ret se_bl)) ss_nil)
    (ss_one (ss_ret (se_callB (c_all rfl) (by rfl) B.all_ bb_all (sa_cons (se_lc (own := [("one", 2), ("other", 3)]) rfl sc_are_numbers.nd (si_zip (by rfl) B.zip_ (sa_cons (se_var 0) (sa_cons (se_slice (se_var 0) (so_some se_int) so_none) sa_nil))) (blkOk_by (by kernel_rfl)) (fun _ _ _ _ _ => (sg_tup (by rfl) (sgs_cons 2 sc_are_numbers.nd (by rfl) (by first | exact Or.inl rfl | exact Or.inr rfl) (sgs_cons 3 sc_are_numbers.nd (by rfl) (by first | exact Or.inl rfl | exact Or.inr rfl) sgs_nil)))) (fun _ _ _ _ _ => sts_nil) (fun _ _ _ _ _ => (se_cmp o_lt (se_var 2) (se_var 3) (by rfl))) (by decide)) sa_nil)))))
def m_are_views (F : Nat → FN) : ES :=
  (sSeq (sIf (kOr (kNot (eTst (eIsi "tuple" (eVar 0)))) (eTst (eOp vNe (eCB bLen (aCons (eVar 0) aNil)) (eVar 1)))) (sRet (eC (.bool false))) sNx)
    (sSeq (sIf (kNot (eTst (eCB bAll (aCons (eLc [3] (.nm 3) (iSeq (eVar 0)) kYes (eAnd (eIsi "tuple" (eVar 3)) (eOp vEq (eCB bLen (aCons (eVar 3) aNil)) (eVar 2)))) aNil)))) (sRet (eC (.bool false))) sNx)
    (sRet (eCB bAll (aCons (eLc2 [3, 4] [4] (.nm 3) (iSeq (eVar 0)) kYes (.nm 4) (iSeq (eVar 3)) kYes (eCl 2 (F 1) (aCons (eVar 4) (aCons (eVar 2) aNil)))) aNil)))))
theorem sc_are_views : FnScope ["thing", "minds", "many", "own", "some"] ["thing", "minds", "many"] (defScope (top 9)) := ⟨rfl, rfl, rfl, by decide +kernel, rfl, by decide +kernel, by decide +kernel⟩
theorem b_are_views (T : Tb cl P w K mg base k F) (B : Bl mg) (C : Cs ⟨K, w, cl⟩ mg) (cdv : Value) (A : Around) (outer : List Env) (s : Shared) (H : Hp) (E : XK) (hr : Room k (cxOf (L2.CX P w) P w K mg base ["thing", "minds", "many", "own", "some"] "are_views" (defScope (top 9)) fa cdv A outer s H E).A) (tk : Takes (cxOf (L2.CX P w) P w K mg base ["thing", "minds", "many", "own", "some"] "are_views" (defScope (top 9)) fa cdv A outer s H E) (fun cls d _ H' => E cls d H')) (hp : PassesOwn (model P w) (cxOf (L2.CX P w) P w K mg base ["thing", "minds", "many", "own", "some"] "are_views" (defScope (top 9)) fa cdv A outer s H E).A (cxOf (L2.CX P w) P w K mg base ["thing", "minds", "many", "own", "some"] "are_views" (defScope (top 9)) fa cdv A outer s H E).env (cxOf (L2.CX P w) P w K mg base ["thing", "minds", "many", "own", "some"] "are_views" (defScope (top 9)) fa cdv A outer s H E).xe) :
    SSs cl (cxOf (L2.CX P w) P w K mg base ["thing", "minds", "many", "own", "some"] "are_views" (defScope (top 9)) fa cdv A outer s H E) (fun cls d _ H' => E cls d H') (defBody (top 9)) (m_are_views F) := by
  have hu := units_of hr
  exact (ss_cons (ss_if (st_bool (sw_or (st_not (st_val (se_isi (se_var 0) (by rfl) B.isinstance_ (by rfl) B.tuple_ bb_tuple))) (sw_one_or (st_cmp (o_ne hu) (se_callB c_len (by rfl) B.len_ bb_len (sa_cons (se_var 0) sa_nil)) (se_var 1) (by rfl))))) (ss_one (ss_ret se_bl)) ss_nil)
    (ss_cons (ss_if (st_not (st_val (se_callB (c_all rfl) (by rfl) B.all_ bb_all (sa_cons (se_lc (own := [("own", 3)]) rfl sc_are_views.nd (si_seq (se_var 0)) (blkOk_by (by kernel_rfl)) (fun _ _ _ _ _ => (sg_name 3 sc_are_views.nd (by rfl) (by first | exact Or.inl rfl | exact Or.inr rfl))) (fun _ _ _ _ _ => sts_nil) (fun _ _ _ _ _ => (se_and (se_isi (se_var 3) (by rfl) B.isinstance_ (by rfl) B.tuple_ bb_tuple) (se_one (se_cmp (o_eq hu) (se_callB c_len (by rfl) B.len_ bb_len (sa_cons (se_var 3) sa_nil)) (se_var 2) (by rfl))))) (by decide)) sa_nil)))) (ss_one (ss_ret se_bl)) ss_nil)
    (ss_one (ss_ret (se_callB (c_all rfl) (by rfl) B.all_ bb_all (sa_cons (se_lc2 (own := [("own", 3), ("some", 4)]) (vs1 := [4]) rfl sc_are_views.nd (si_seq (se_var 0)) (blkOk_by (by kernel_rfl)) (by decide) (fun _ _ _ _ _ => (sg_name 3 sc_are_views.nd (by rfl) (by first | exact Or.inl rfl | exact Or.inr rfl))) (fun _ _ _ _ _ => sts_nil) (fun _ _ _ _ _ => (si_seq (se_var 3))) (fun _ _ _ _ _ => (sg_name 4 sc_are_views.nd (by rfl) (by first | exact Or.inl rfl | exact Or.inr rfl))) (fun _ _ _ _ _ => sts_nil) (fun _ _ _ _ _ => (se_cl T.f_are_numbers hr takes0 (by rfl) (sa_cons (se_var 4) (sa_cons (se_var 2) sa_nil)))) (by decide) (by decide)) sa_nil))))))
def m_sizes_of (F : Nat → FN) : ES :=
  (sRet (eTup (aCons (eCB bMax (aCons (eLc [1] (.nm 1) (iSeq (eVar 0)) kYes (eOp vIx (eVar 1) (eC (.int 0)))) aNil)) (aCons (eCB bMax (aCons (eLc [1] (.nm 1) (iSeq (eVar 0)) kYes (eOp vIx (eVar 1) (eC (.int 1)))) aNil)) aNil))))
theorem sc_sizes_of : FnScope ["sizes", "one"] ["sizes"] (defScope (top 14)) := ⟨rfl, rfl, rfl, by decide +kernel, rfl, by decide +kernel, by decide +kernel⟩
theorem b_sizes_of (T : Tb cl P w K mg base k F) (B : Bl mg) (C : Cs ⟨K, w, cl⟩ mg) (cdv : Value) (A : Around) (outer : List Env) (s : Shared) (H : Hp) (E : XK) (hr : Room k (cxOf (L2.CX P w) P w K mg base ["sizes", "one"] "sizes_of" (defScope (top 14)) fa cdv A outer s H E).A) (tk : Takes (cxOf (L2.CX P w) P w K mg base ["sizes", "one"] "sizes_of" (defScope (top 14)) fa cdv A outer s H E) (fun cls d _ H' => E cls d H')) (hp : PassesOwn (model P w) (cxOf (L2.CX P w) P w K mg base ["sizes", "one"] "sizes_of" (defScope (top 14)) fa cdv A outer s H E).A (cxOf (L2.CX P w) P w K mg base ["sizes", "one"] "sizes_of" (defScope (top 14)) fa cdv A outer s H E).env (cxOf (L2.CX P w) P w K mg base ["sizes", "one"] "sizes_of" (defScope (top 14)) fa cdv A outer s H E).xe) :
    SSs cl (cxOf (L2.CX P w) P w K mg base ["sizes", "one"] "sizes_of" (defScope (top 14)) fa cdv A outer s H E) (fun cls d _ H' => E cls d H') (defBody (top 14)) (m_sizes_of F) := by
  have hu := units_of hr
  exact (ss_one (ss_ret (se_tup (sa_cons (se_callB (c_max rfl) (by rfl) B.max_ bb_max (sa_cons (se_lc (own := [("one", 1)]) rfl sc_sizes_of.nd (si_seq (se_var 0)) (blkOk_by (by kernel_rfl)) (fun _ _ _ _ _ => (sg_name 1 sc_sizes_of.nd (by rfl) (by first | exact Or.inl rfl | exact Or.inr rfl))) (fun _ _ _ _ _ => sts_nil) (fun _ _ _ _ _ => (se_ix (se_var 1) se_int (fun _ _ => rfl))) (by decide)) sa_nil)) (sa_cons (se_callB (c_max rfl) (by rfl) B.max_ bb_max (sa_cons (se_lc (own := [("one", 1)]) rfl sc_sizes_of.nd (si_seq (se_var 0)) (blkOk_by (by kernel_rfl)) (fun _ _ _ _ _ => (sg_name 1 sc_sizes_of.nd (by rfl) (by first | exact Or.inl rfl | exact Or.inr rfl))) (fun _ _ _ _ _ => sts_nil) (fun _ _ _ _ _ => (se_ix (se_var 1) se_int (fun _ _ => rfl))) (by decide)) sa_nil)) sa_nil)))))
def m_size_of (F : Nat → FN) : ES :=
  (sSeq (sIf (kOr (kNot (eTst (eIsi "tuple" (eVar 2)))) (kOr (eTst (eOp vEq (eVar 2) (eTup aNil))) (kNot (eTst (eIsi "str" (eOp vIx (eVar 2) (eC (.int 0)))))))) (sRet (eC .none)) sNx)
    (sSeq (sStar 3 4 (eVar 2))
    (sSeq (sIf (eTst (eOp vEq (eVar 3) (eC (.str "fact")))) (sRet (eIf (kAnd (eTst (eOp vEq (eCB bLen (aCons (eVar 4) aNil)) (eC (.int 1)))) (eTst (eCl 3 (F 0) (aCons (eOp vIx (eVar 4) (eC (.int 0))) (aCons (eC (.int 0)) (aCons (eOp (pur2 (dI iSub)) (eVar 1) (eC (.int 1))) aNil)))))) (eTup (aCons (eC (.int 1)) (aCons (eC (.int 0)) aNil))) (eC .none))) sNx)
    (sSeq (sIf (eTst (eOp vEq (eVar 3) (eC (.str "after")))) (sRet (eCl 3 (F 5) (aCons (eVar 0) (aCons (eVar 1) (aCons (eVar 4) aNil))))) sNx)
    (sSeq (sIf (eTst (eOp vIn (eVar 3) (eTup (aCons (eC (.str "holds")) (aCons (eC (.str "may")) aNil))))) (sSeq (sIf (kOr (eTst (eOp vNe (eCB bLen (aCons (eVar 4) aNil)) (eC (.int 2)))) (kNot (eTst (eCl 3 (F 0) (aCons (eOp vIx (eVar 4) (eC (.int 0))) (aCons (eC (.int 0)) (aCons (eOp (pur2 (dI iSub)) (eVar 0) (eC (.int 1))) aNil))))))) (sRet (eC .none)) sNx)
    (sSet 4 (eSl (eVar 4) (oSome (eC (.int 1))) oNone))) (sIf (eTst (eOp vIn (eVar 3) (eTup (aCons (eC (.str "and")) (aCons (eC (.str "or")) aNil))))) (sIf (eTst (eOp vNe (eCB bLen (aCons (eVar 4) aNil)) (eC (.int 2)))) (sRet (eC .none)) sNx) (sIf (kOr (eTst (eOp vNin (eVar 3) (eTup (aCons (eC (.str "not")) (aCons (eC (.str "all")) (aCons (eC (.str "common")) aNil)))))) (eTst (eOp vNe (eCB bLen (aCons (eVar 4) aNil)) (eC (.int 1))))) (sRet (eC .none)) sNx)))
    (sSeq (sSet 5 (eLc [8] (.nm 8) (iSeq (eVar 4)) kYes (eCl 3 (F 4) (aCons (eVar 0) (aCons (eVar 1) (aCons (eVar 8) aNil))))))
    (sSeq (sIf (eTst (eOp vIn (eC .none) (eVar 5))) (sRet (eC .none)) sNx)
    (sSeq (sSetT (.tp [6, 7]) (eCl 1 (F 3) (aCons (eVar 5) aNil)))
    (sRet (eTup (aCons (eOp vAdd (eVar 6) (eC (.int 1))) (aCons (eVar 7) aNil))))))))))))
theorem sc_size_of : FnScope ["minds", "facts", "thing", "word", "rest", "sizes", "deep", "deeds", "one"] ["minds", "facts", "thing"] (defScope (top 15)) := ⟨rfl, rfl, rfl, by decide +kernel, rfl, by decide +kernel, by decide +kernel⟩
theorem b_size_of (T : Tb cl P w K mg base k F) (B : Bl mg) (C : Cs ⟨K, w, cl⟩ mg) (cdv : Value) (A : Around) (outer : List Env) (s : Shared) (H : Hp) (E : XK) (hr : Room k (cxOf (L2.CX P w) P w K mg base ["minds", "facts", "thing", "word", "rest", "sizes", "deep", "deeds", "one"] "size_of" (defScope (top 15)) fa cdv A outer s H E).A) (tk : Takes (cxOf (L2.CX P w) P w K mg base ["minds", "facts", "thing", "word", "rest", "sizes", "deep", "deeds", "one"] "size_of" (defScope (top 15)) fa cdv A outer s H E) (fun cls d _ H' => E cls d H')) (hp : PassesOwn (model P w) (cxOf (L2.CX P w) P w K mg base ["minds", "facts", "thing", "word", "rest", "sizes", "deep", "deeds", "one"] "size_of" (defScope (top 15)) fa cdv A outer s H E).A (cxOf (L2.CX P w) P w K mg base ["minds", "facts", "thing", "word", "rest", "sizes", "deep", "deeds", "one"] "size_of" (defScope (top 15)) fa cdv A outer s H E).env (cxOf (L2.CX P w) P w K mg base ["minds", "facts", "thing", "word", "rest", "sizes", "deep", "deeds", "one"] "size_of" (defScope (top 15)) fa cdv A outer s H E).xe) :
    SSs cl (cxOf (L2.CX P w) P w K mg base ["minds", "facts", "thing", "word", "rest", "sizes", "deep", "deeds", "one"] "size_of" (defScope (top 15)) fa cdv A outer s H E) (fun cls d _ H' => E cls d H') (defBody (top 15)) (m_size_of F) := by
  have hu := units_of hr
  exact (ss_cons (ss_if (st_bool (sw_or (st_not (st_val (se_isi (se_var 2) (by rfl) B.isinstance_ (by rfl) B.tuple_ bb_tuple))) (sw_or (st_cmp (o_eq hu) (se_var 2) (se_tup sa_nil) (by rfl)) (sw_one_or (st_not (st_val (se_isi (se_ix (se_var 2) se_int (fun _ _ => rfl)) (by rfl) B.isinstance_ (by rfl) B.str_ bb_str))))))) (ss_one (ss_ret se_non)) ss_nil)
    (ss_cons (ss_star 3 4 rfl sc_size_of.nd (by rfl) (by rfl) (by first | exact Or.inl rfl | exact Or.inr rfl) (by first | exact Or.inl rfl | exact Or.inr rfl) (fun _ => rfl) (se_var 2))
    (ss_cons (ss_if (st_cmp (o_eq hu) (se_var 3) se_str (by rfl)) (ss_one (ss_ret (se_if (st_bool (sw_and (st_cmp (o_eq hu) (se_callB c_len (by rfl) B.len_ bb_len (sa_cons (se_var 4) sa_nil)) se_int (by rfl)) (sw_one_and (st_val (se_cl T.f_is_whole hr tk (by rfl) (sa_cons (se_ix (se_var 4) se_int (fun _ _ => rfl)) (sa_cons se_int (sa_cons (se_op o_sub (se_var 1) se_int) sa_nil)))))))) (se_tup (sa_cons se_int (sa_cons se_int sa_nil))) se_non))) ss_nil)
    (ss_cons (ss_if (st_cmp (o_eq hu) (se_var 3) se_str (by rfl)) (ss_one (ss_ret (se_cl T.f_size_after hr tk (by rfl) (sa_cons (se_var 0) (sa_cons (se_var 1) (sa_cons (se_var 4) sa_nil)))))) ss_nil)
    (ss_cons (ss_if (st_cmp (o_in hu) (se_var 3) (se_tup (sa_cons se_str (sa_cons se_str sa_nil))) (by rfl)) (ss_cons (ss_if (st_bool (sw_or (st_cmp (o_ne hu) (se_callB c_len (by rfl) B.len_ bb_len (sa_cons (se_var 4) sa_nil)) se_int (by rfl)) (sw_one_or (st_not (st_val (se_cl T.f_is_whole hr tk (by rfl) (sa_cons (se_ix (se_var 4) se_int (fun _ _ => rfl)) (sa_cons se_int (sa_cons (se_op o_sub (se_var 0) se_int) sa_nil))))))))) (ss_one (ss_ret se_non)) ss_nil)
    (ss_one (ss_set 4 sc_size_of.nd (by rfl) (by first | exact Or.inl rfl | exact Or.inr rfl) (se_slice (se_var 4) (so_some se_int) so_none)))) (ss_one (ss_if (st_cmp (o_in hu) (se_var 3) (se_tup (sa_cons se_str (sa_cons se_str sa_nil))) (by rfl)) (ss_one (ss_if (st_cmp (o_ne hu) (se_callB c_len (by rfl) B.len_ bb_len (sa_cons (se_var 4) sa_nil)) se_int (by rfl)) (ss_one (ss_ret se_non)) ss_nil)) (ss_one (ss_if (st_bool (sw_or (st_cmp (o_nin hu) (se_var 3) (se_tup (sa_cons se_str (sa_cons se_str (sa_cons se_str sa_nil)))) (by rfl)) (sw_one_or (st_cmp (o_ne hu) (se_callB c_len (by rfl) B.len_ bb_len (sa_cons (se_var 4) sa_nil)) se_int (by rfl))))) (ss_one (ss_ret se_non)) ss_nil)))))
    (ss_cons (ss_setLc (own := [("one", 8)]) 5 rfl sc_size_of.nd (by rfl) rfl (sw_true rfl rfl rfl (by kernel_rfl)) (si_seq (se_var 4)) (blkOk_by (by kernel_rfl)) (fun _ _ _ _ _ => (sg_name 8 sc_size_of.nd (by rfl) (by first | exact Or.inl rfl | exact Or.inr rfl))) (fun _ _ _ _ _ => sts_nil) (fun _ _ _ _ _ => (se_cl T.f_size_of hr takes0 (by rfl) (sa_cons (se_var 0) (sa_cons (se_var 1) (sa_cons (se_var 8) sa_nil))))) (by decide))
    (ss_cons (ss_if (st_cmp (o_in hu) se_non (se_var 5) (by rfl)) (ss_one (ss_ret se_non)) ss_nil)
    (ss_cons (ss_setT (se_cl T.f_sizes_of hr tk (by rfl) (sa_cons (se_var 5) sa_nil)) (sg_tup (by rfl) (sgs_cons 6 sc_size_of.nd (by rfl) (by first | exact Or.inl rfl | exact Or.inr rfl) (sgs_cons 7 sc_size_of.nd (by rfl) (by first | exact Or.inl rfl | exact Or.inr rfl) sgs_nil))))
    (ss_one (ss_ret (se_tup (sa_cons (se_op o_add (se_var 6) se_int) (sa_cons (se_var 7) sa_nil)))))))))))))
def m_size_after (F : Nat → FN) : ES :=
  (sSeq (sIf (eTst (eOp vNe (eCB bLen (aCons (eVar 2) aNil)) (eC (.int 3)))) (sRet (eC .none)) sNx)
    (sSeq (sParN [3, 4] (aCons (eCl 3 (F 7) (aCons (eVar 0) (aCons (eVar 1) (aCons (eOp vIx (eVar 2) (eC (.int 0))) aNil)))) (aCons (eCl 3 (F 4) (aCons (eVar 0) (aCons (eVar 1) (aCons (eOp vIx (eVar 2) (eC (.int 2))) aNil)))) aNil)))
    (sSeq (sIf (kOr (eTst (eOp vIsN (eVar 3) (eC .none))) (kOr (eTst (eOp vIsN (eVar 4) (eC .none))) (kNot (eTst (eCl 3 (F 0) (aCons (eOp vIx (eVar 2) (eC (.int 1))) (aCons (eC (.int 0)) (aCons (eOp (pur2 (dI iSub)) (eCB bLen (aCons (eOp vIx (eOp vIx (eVar 2) (eC (.int 0))) (eC (.int 0))) aNil)) (eC (.int 1))) aNil)))))))) (sRet (eC .none)) sNx)
    (sSeq (sSetT (.tp [5, 6]) (eCl 1 (F 3) (aCons (eLst (aCons (eVar 3) (aCons (eVar 4) aNil))) aNil)))
    (sRet (eTup (aCons (eOp vAdd (eVar 5) (eC (.int 1))) (aCons (eOp vAdd (eVar 6) (eC (.int 1))) aNil))))))))
theorem sc_size_after : FnScope ["minds", "facts", "rest", "deed", "saying", "deep", "deeds"] ["minds", "facts", "rest"] (defScope (top 16)) := ⟨rfl, rfl, rfl, by decide +kernel, rfl, by decide +kernel, by decide +kernel⟩
theorem b_size_after (T : Tb cl P w K mg base k F) (B : Bl mg) (C : Cs ⟨K, w, cl⟩ mg) (cdv : Value) (A : Around) (outer : List Env) (s : Shared) (H : Hp) (E : XK) (hr : Room k (cxOf (L2.CX P w) P w K mg base ["minds", "facts", "rest", "deed", "saying", "deep", "deeds"] "size_after" (defScope (top 16)) fa cdv A outer s H E).A) (tk : Takes (cxOf (L2.CX P w) P w K mg base ["minds", "facts", "rest", "deed", "saying", "deep", "deeds"] "size_after" (defScope (top 16)) fa cdv A outer s H E) (fun cls d _ H' => E cls d H')) (hp : PassesOwn (model P w) (cxOf (L2.CX P w) P w K mg base ["minds", "facts", "rest", "deed", "saying", "deep", "deeds"] "size_after" (defScope (top 16)) fa cdv A outer s H E).A (cxOf (L2.CX P w) P w K mg base ["minds", "facts", "rest", "deed", "saying", "deep", "deeds"] "size_after" (defScope (top 16)) fa cdv A outer s H E).env (cxOf (L2.CX P w) P w K mg base ["minds", "facts", "rest", "deed", "saying", "deep", "deeds"] "size_after" (defScope (top 16)) fa cdv A outer s H E).xe) :
    SSs cl (cxOf (L2.CX P w) P w K mg base ["minds", "facts", "rest", "deed", "saying", "deep", "deeds"] "size_after" (defScope (top 16)) fa cdv A outer s H E) (fun cls d _ H' => E cls d H') (defBody (top 16)) (m_size_after F) := by
  have hu := units_of hr
  exact (ss_cons (ss_if (st_cmp (o_ne hu) (se_callB c_len (by rfl) B.len_ bb_len (sa_cons (se_var 2) sa_nil)) se_int (by rfl)) (ss_one (ss_ret se_non)) ss_nil)
    (ss_cons (ss_par 3 4 rfl sc_size_after.nd (by rfl) (by rfl) (by decide) rfl rfl (sa_cons (se_cl T.f_size_of_deed hr tk (by rfl) (sa_cons (se_var 0) (sa_cons (se_var 1) (sa_cons (se_ix (se_var 2) se_int (fun _ _ => rfl)) sa_nil)))) (sa_cons (se_cl T.f_size_of hr tk (by rfl) (sa_cons (se_var 0) (sa_cons (se_var 1) (sa_cons (se_ix (se_var 2) se_int (fun _ _ => rfl)) sa_nil)))) sa_nil)) (by rfl))
    (ss_cons (ss_if (st_bool (sw_or (st_cmp o_is (se_var 3) se_non (by rfl)) (sw_or (st_cmp o_is (se_var 4) se_non (by rfl)) (sw_one_or (st_not (st_val (se_cl T.f_is_whole hr tk (by rfl) (sa_cons (se_ix (se_var 2) se_int (fun _ _ => rfl)) (sa_cons se_int (sa_cons (se_op o_sub (se_callB c_len (by rfl) B.len_ bb_len (sa_cons (se_ix (se_ix (se_var 2) se_int (fun _ _ => rfl)) se_int (fun _ _ => rfl)) sa_nil)) se_int) sa_nil)))))))))) (ss_one (ss_ret se_non)) ss_nil)
    (ss_cons (ss_setT (se_cl T.f_sizes_of hr tk (by rfl) (sa_cons (se_lst (sa_cons (se_var 3) (sa_cons (se_var 4) sa_nil))) sa_nil)) (sg_tup (by rfl) (sgs_cons 5 sc_size_after.nd (by rfl) (by first | exact Or.inl rfl | exact Or.inr rfl) (sgs_cons 6 sc_size_after.nd (by rfl) (by first | exact Or.inl rfl | exact Or.inr rfl) sgs_nil))))
    (ss_one (ss_ret (se_tup (sa_cons (se_op o_add (se_var 5) se_int) (sa_cons (se_op o_add (se_var 6) se_int) sa_nil)))))))))
def m_size_of_event (F : Nat → FN) : ES :=
  (sSeq (sIf (kOr (kNot (eTst (eIsi "tuple" (eVar 2)))) (kOr (eTst (eOp vNe (eCB bLen (aCons (eVar 2) aNil)) (eC (.int 2)))) (kNot (eTst (eIsi "tuple" (eOp vIx (eVar 2) (eC (.int 1)))))))) (sRet (eC .none)) sNx)
    (sSeq (sIf (kNot (eTst (eCB bAll (aCons (eLc [4] (.nm 4) (iSeq (eOp vIx (eVar 2) (eC (.int 1)))) kYes (eAnd (eIsi "tuple" (eVar 4)) (eAnd (eOp vEq (eCB bLen (aCons (eVar 4) aNil)) (eC (.int 2))) (eCl 3 (F 0) (aCons (eOp vIx (eVar 4) (eC (.int 0))) (aCons (eC (.int 0)) (aCons (eOp (pur2 (dI iSub)) (eVar 1) (eC (.int 1))) aNil))))))) aNil)))) (sRet (eC .none)) sNx)
    (sSeq (sIf (kNot (eTst (eCB bAll (aCons (eLc [4, 5] (.tp [4, 5]) (iZip (aCons (eOp vIx (eVar 2) (eC (.int 1))) (aCons (eSl (eOp vIx (eVar 2) (eC (.int 1))) (oSome (eC (.int 1))) oNone) aNil))) kYes (eOp (pur2 (dI iLt)) (eOp vIx (eVar 4) (eC (.int 0))) (eOp vIx (eVar 5) (eC (.int 0))))) aNil)))) (sRet (eC .none)) sNx)
    (sSeq (sSet 3 (eOp vAdd (eLst (aCons (eCl 3 (F 4) (aCons (eVar 0) (aCons (eVar 1) (aCons (eOp vIx (eVar 2) (eC (.int 0))) aNil)))) aNil)) (eLc [4] (.nm 4) (iSeq (eOp vIx (eVar 2) (eC (.int 1)))) kYes (eCl 3 (F 4) (aCons (eVar 0) (aCons (eVar 1) (aCons (eOp vIx (eVar 4) (eC (.int 1))) aNil)))))))
    (sRet (eIf (eTst (eOp vIn (eC .none) (eVar 3))) (eC .none) (eCl 1 (F 3) (aCons (eVar 3) aNil))))))))
theorem sc_size_of_event : FnScope ["minds", "facts", "thing", "sizes", "one", "other"] ["minds", "facts", "thing"] (defScope (top 17)) := ⟨rfl, rfl, rfl, by decide +kernel, rfl, by decide +kernel, by decide +kernel⟩
theorem b_size_of_event (T : Tb cl P w K mg base k F) (B : Bl mg) (C : Cs ⟨K, w, cl⟩ mg) (cdv : Value) (A : Around) (outer : List Env) (s : Shared) (H : Hp) (E : XK) (hr : Room k (cxOf (L2.CX P w) P w K mg base ["minds", "facts", "thing", "sizes", "one", "other"] "size_of_event" (defScope (top 17)) fa cdv A outer s H E).A) (tk : Takes (cxOf (L2.CX P w) P w K mg base ["minds", "facts", "thing", "sizes", "one", "other"] "size_of_event" (defScope (top 17)) fa cdv A outer s H E) (fun cls d _ H' => E cls d H')) (hp : PassesOwn (model P w) (cxOf (L2.CX P w) P w K mg base ["minds", "facts", "thing", "sizes", "one", "other"] "size_of_event" (defScope (top 17)) fa cdv A outer s H E).A (cxOf (L2.CX P w) P w K mg base ["minds", "facts", "thing", "sizes", "one", "other"] "size_of_event" (defScope (top 17)) fa cdv A outer s H E).env (cxOf (L2.CX P w) P w K mg base ["minds", "facts", "thing", "sizes", "one", "other"] "size_of_event" (defScope (top 17)) fa cdv A outer s H E).xe) :
    SSs cl (cxOf (L2.CX P w) P w K mg base ["minds", "facts", "thing", "sizes", "one", "other"] "size_of_event" (defScope (top 17)) fa cdv A outer s H E) (fun cls d _ H' => E cls d H') (defBody (top 17)) (m_size_of_event F) := by
  have hu := units_of hr
  exact (ss_cons (ss_if (st_bool (sw_or (st_not (st_val (se_isi (se_var 2) (by rfl) B.isinstance_ (by rfl) B.tuple_ bb_tuple))) (sw_or (st_cmp (o_ne hu) (se_callB c_len (by rfl) B.len_ bb_len (sa_cons (se_var 2) sa_nil)) se_int (by rfl)) (sw_one_or (st_not (st_val (se_isi (se_ix (se_var 2) se_int (fun _ _ => rfl)) (by rfl) B.isinstance_ (by rfl) B.tuple_ bb_tuple))))))) (ss_one (ss_ret se_non)) ss_nil)
    (ss_cons (ss_if (st_not (st_val (se_callB (c_all rfl) (by rfl) B.all_ bb_all (sa_cons (se_lc (own := [("one", 4)]) rfl sc_size_of_event.nd (si_seq (se_ix (se_var 2) se_int (fun _ _ => rfl))) (blkOk_by (by kernel_rfl)) (fun _ _ _ _ _ => (sg_name 4 sc_size_of_event.nd (by rfl) (by first | exact Or.inl rfl | exact Or.inr rfl))) (fun _ _ _ _ _ => sts_nil) (fun _ _ _ _ _ => (se_and (se_isi (se_var 4) (by rfl) B.isinstance_ (by rfl) B.tuple_ bb_tuple) (se_and (se_cmp (o_eq hu) (se_callB c_len (by rfl) B.len_ bb_len (sa_cons (se_var 4) sa_nil)) se_int (by rfl)) (se_one (se_cl T.f_is_whole hr takes0 (by rfl) (sa_cons (se_ix (se_var 4) se_int (fun _ _ => rfl)) (sa_cons se_int (sa_cons (se_op o_sub (se_var 1) se_int) sa_nil)))))))) (by decide)) sa_nil)))) (ss_one (ss_ret se_non)) ss_nil)
    (ss_cons (ss_if (st_not (st_val (se_callB (c_all rfl) (by rfl) B.all_ bb_all (sa_cons (se_lc (own := [("one", 4), ("other", 5)]) rfl sc_size_of_event.nd (si_zip (by rfl) B.zip_ (sa_cons (se_ix (se_var 2) se_int (fun _ _ => rfl)) (sa_cons (se_slice (se_ix (se_var 2) se_int (fun _ _ => rfl)) (so_some se_int) so_none) sa_nil))) (blkOk_by (by kernel_rfl)) (fun _ _ _ _ _ => (sg_tup (by rfl) (sgs_cons 4 sc_size_of_event.nd (by rfl) (by first | exact Or.inl rfl | exact Or.inr rfl) (sgs_cons 5 sc_size_of_event.nd (by rfl) (by first | exact Or.inl rfl | exact Or.inr rfl) sgs_nil)))) (fun _ _ _ _ _ => sts_nil) (fun _ _ _ _ _ => (se_cmp o_lt (se_ix (se_var 4) se_int (fun _ _ => rfl)) (se_ix (se_var 5) se_int (fun _ _ => rfl)) (by rfl))) (by decide)) sa_nil)))) (ss_one (ss_ret se_non)) ss_nil)
    (ss_cons (ss_set 3 sc_size_of_event.nd (by rfl) (by first | exact Or.inl rfl | exact Or.inr rfl) (se_op o_add (se_lst (sa_cons (se_cl T.f_size_of hr tk (by rfl) (sa_cons (se_var 0) (sa_cons (se_var 1) (sa_cons (se_ix (se_var 2) se_int (fun _ _ => rfl)) sa_nil)))) sa_nil)) (se_lc (own := [("one", 4)]) rfl sc_size_of_event.nd (si_seq (se_ix (se_var 2) se_int (fun _ _ => rfl))) (blkOk_by (by kernel_rfl)) (fun _ _ _ _ _ => (sg_name 4 sc_size_of_event.nd (by rfl) (by first | exact Or.inl rfl | exact Or.inr rfl))) (fun _ _ _ _ _ => sts_nil) (fun _ _ _ _ _ => (se_cl T.f_size_of hr takes0 (by rfl) (sa_cons (se_var 0) (sa_cons (se_var 1) (sa_cons (se_ix (se_var 4) se_int (fun _ _ => rfl)) sa_nil))))) (by decide))))
    (ss_one (ss_ret (se_if (st_cmp (o_in hu) se_non (se_var 3) (by rfl)) se_non (se_cl T.f_sizes_of hr tk (by rfl) (sa_cons (se_var 3) sa_nil)))))))))
def m_size_of_deed (F : Nat → FN) : ES :=
  (sSeq (sIf (kOr (kNot (eTst (eIsi "tuple" (eVar 2)))) (kOr (eTst (eOp vNe (eCB bLen (aCons (eVar 2) aNil)) (eC (.int 2)))) (kNot (eTst (eIsi "tuple" (eOp vIx (eVar 2) (eC (.int 0)))))))) (sRet (eC .none)) sNx)
    (sSeq (sIf (kOr (kNot (eTst (eChain (pur2 (dI iLe)) (pur2 (dI iLe)) (eC (.int 1)) (eCB bLen (aCons (eOp vIx (eVar 2) (eC (.int 0))) aNil)) (eC (.int 5))))) (kNot (eTst (eCl 3 (F 2) (aCons (eOp vIx (eVar 2) (eC (.int 1))) (aCons (eVar 0) (aCons (eCB bLen (aCons (eOp vIx (eVar 2) (eC (.int 0))) aNil)) aNil))))))) (sRet (eC .none)) sNx)
    (sSeq (sSet 3 (eLc [4] (.nm 4) (iSeq (eOp vIx (eVar 2) (eC (.int 0)))) kYes (eCl 3 (F 6) (aCons (eVar 0) (aCons (eVar 1) (aCons (eVar 4) aNil))))))
    (sRet (eIf (eTst (eOp vIn (eC .none) (eVar 3))) (eC .none) (eCl 1 (F 3) (aCons (eVar 3) aNil)))))))
theorem sc_size_of_deed : FnScope ["minds", "facts", "thing", "sizes", "event"] ["minds", "facts", "thing"] (defScope (top 18)) := ⟨rfl, rfl, rfl, by decide +kernel, rfl, by decide +kernel, by decide +kernel⟩
theorem b_size_of_deed (T : Tb cl P w K mg base k F) (B : Bl mg) (C : Cs ⟨K, w, cl⟩ mg) (cdv : Value) (A : Around) (outer : List Env) (s : Shared) (H : Hp) (E : XK) (hr : Room k (cxOf (L2.CX P w) P w K mg base ["minds", "facts", "thing", "sizes", "event"] "size_of_deed" (defScope (top 18)) fa cdv A outer s H E).A) (tk : Takes (cxOf (L2.CX P w) P w K mg base ["minds", "facts", "thing", "sizes", "event"] "size_of_deed" (defScope (top 18)) fa cdv A outer s H E) (fun cls d _ H' => E cls d H')) (hp : PassesOwn (model P w) (cxOf (L2.CX P w) P w K mg base ["minds", "facts", "thing", "sizes", "event"] "size_of_deed" (defScope (top 18)) fa cdv A outer s H E).A (cxOf (L2.CX P w) P w K mg base ["minds", "facts", "thing", "sizes", "event"] "size_of_deed" (defScope (top 18)) fa cdv A outer s H E).env (cxOf (L2.CX P w) P w K mg base ["minds", "facts", "thing", "sizes", "event"] "size_of_deed" (defScope (top 18)) fa cdv A outer s H E).xe) :
    SSs cl (cxOf (L2.CX P w) P w K mg base ["minds", "facts", "thing", "sizes", "event"] "size_of_deed" (defScope (top 18)) fa cdv A outer s H E) (fun cls d _ H' => E cls d H') (defBody (top 18)) (m_size_of_deed F) := by
  have hu := units_of hr
  exact (ss_cons (ss_if (st_bool (sw_or (st_not (st_val (se_isi (se_var 2) (by rfl) B.isinstance_ (by rfl) B.tuple_ bb_tuple))) (sw_or (st_cmp (o_ne hu) (se_callB c_len (by rfl) B.len_ bb_len (sa_cons (se_var 2) sa_nil)) se_int (by rfl)) (sw_one_or (st_not (st_val (se_isi (se_ix (se_var 2) se_int (fun _ _ => rfl)) (by rfl) B.isinstance_ (by rfl) B.tuple_ bb_tuple))))))) (ss_one (ss_ret se_non)) ss_nil)
    (ss_cons (ss_if (st_bool (sw_or (st_not (st_chain o_le o_le se_int (se_callB c_len (by rfl) B.len_ bb_len (sa_cons (se_ix (se_var 2) se_int (fun _ _ => rfl)) sa_nil)) (se_gc C.c_EVENTS (by rfl)))) (sw_one_or (st_not (st_val (se_cl T.f_are_views hr tk (by rfl) (sa_cons (se_ix (se_var 2) se_int (fun _ _ => rfl)) (sa_cons (se_var 0) (sa_cons (se_callB c_len (by rfl) B.len_ bb_len (sa_cons (se_ix (se_var 2) se_int (fun _ _ => rfl)) sa_nil)) sa_nil))))))))) (ss_one (ss_ret se_non)) ss_nil)
    (ss_cons (ss_setLc (own := [("event", 4)]) 3 rfl sc_size_of_deed.nd (by rfl) rfl (sw_true rfl rfl rfl (by kernel_rfl)) (si_seq (se_ix (se_var 2) se_int (fun _ _ => rfl))) (blkOk_by (by kernel_rfl)) (fun _ _ _ _ _ => (sg_name 4 sc_size_of_deed.nd (by rfl) (by first | exact Or.inl rfl | exact Or.inr rfl))) (fun _ _ _ _ _ => sts_nil) (fun _ _ _ _ _ => (se_cl T.f_size_of_event hr takes0 (by rfl) (sa_cons (se_var 0) (sa_cons (se_var 1) (sa_cons (se_var 4) sa_nil))))) (by decide))
    (ss_one (ss_ret (se_if (st_cmp (o_in hu) se_non (se_var 3) (by rfl)) se_non (se_cl T.f_sizes_of hr tk (by rfl) (sa_cons (se_var 3) sa_nil))))))))
def m_good_deed (F : Nat → FN) : ES :=
  (sSeq (sSet 3 (eCl 3 (F 7) (aCons (eVar 0) (aCons (eVar 1) (aCons (eVar 2) aNil)))))
    (sRet (eAnd (eOp vNotN (eVar 3) (eC .none)) (eAnd (eOp (pur2 (dI iLe)) (eOp vAdd (eOp vIx (eVar 3) (eC (.int 0))) (eC (.int 1))) (eC (.int 12))) (eOp (pur2 (dI iLe)) (eOp vAdd (eOp vIx (eVar 3) (eC (.int 1))) (eC (.int 1))) (eC (.int 3)))))))
theorem sc_good_deed : FnScope ["minds", "facts", "thing", "size"] ["minds", "facts", "thing"] (defScope (top 19)) := ⟨rfl, rfl, rfl, by decide +kernel, rfl, by decide +kernel, by decide +kernel⟩
theorem b_good_deed (T : Tb cl P w K mg base k F) (B : Bl mg) (C : Cs ⟨K, w, cl⟩ mg) (cdv : Value) (A : Around) (outer : List Env) (s : Shared) (H : Hp) (E : XK) (hr : Room k (cxOf (L2.CX P w) P w K mg base ["minds", "facts", "thing", "size"] "good_deed" (defScope (top 19)) fa cdv A outer s H E).A) (tk : Takes (cxOf (L2.CX P w) P w K mg base ["minds", "facts", "thing", "size"] "good_deed" (defScope (top 19)) fa cdv A outer s H E) (fun cls d _ H' => E cls d H')) (hp : PassesOwn (model P w) (cxOf (L2.CX P w) P w K mg base ["minds", "facts", "thing", "size"] "good_deed" (defScope (top 19)) fa cdv A outer s H E).A (cxOf (L2.CX P w) P w K mg base ["minds", "facts", "thing", "size"] "good_deed" (defScope (top 19)) fa cdv A outer s H E).env (cxOf (L2.CX P w) P w K mg base ["minds", "facts", "thing", "size"] "good_deed" (defScope (top 19)) fa cdv A outer s H E).xe) :
    SSs cl (cxOf (L2.CX P w) P w K mg base ["minds", "facts", "thing", "size"] "good_deed" (defScope (top 19)) fa cdv A outer s H E) (fun cls d _ H' => E cls d H') (defBody (top 19)) (m_good_deed F) := by
  have hu := units_of hr
  exact (ss_cons (ss_set 3 sc_good_deed.nd (by rfl) (by first | exact Or.inl rfl | exact Or.inr rfl) (se_cl T.f_size_of_deed hr tk (by rfl) (sa_cons (se_var 0) (sa_cons (se_var 1) (sa_cons (se_var 2) sa_nil)))))
    (ss_one (ss_ret (se_and (se_cmp o_isnot (se_var 3) se_non (by rfl)) (se_and (se_cmp o_le (se_op o_add (se_ix (se_var 3) se_int (fun _ _ => rfl)) se_int) (se_gc C.c_DEEP (by rfl)) (by rfl)) (se_one (se_cmp o_le (se_op o_add (se_ix (se_var 3) se_int (fun _ _ => rfl)) se_int) (se_gc C.c_AFTER (by rfl)) (by rfl))))))))
def m_is_deed (F : Nat → FN) : ES :=
  (sRet (eCl 3 (F 8) (aCons (eVar 0) (aCons (eVar 1) (aCons (eVar 2) aNil)))))
theorem sc_is_deed : FnScope ["minds", "facts", "thing"] ["minds", "facts", "thing"] (defScope (top 20)) := ⟨rfl, rfl, rfl, by decide +kernel, rfl, by decide +kernel, by decide +kernel⟩
theorem b_is_deed (T : Tb cl P w K mg base k F) (B : Bl mg) (C : Cs ⟨K, w, cl⟩ mg) (cdv : Value) (A : Around) (outer : List Env) (s : Shared) (H : Hp) (E : XK) (hr : Room k (cxOf (L2.CX P w) P w K mg base ["minds", "facts", "thing"] "is_deed" (defScope (top 20)) fa cdv A outer s H E).A) (tk : Takes (cxOf (L2.CX P w) P w K mg base ["minds", "facts", "thing"] "is_deed" (defScope (top 20)) fa cdv A outer s H E) (fun cls d _ H' => E cls d H')) (hp : PassesOwn (model P w) (cxOf (L2.CX P w) P w K mg base ["minds", "facts", "thing"] "is_deed" (defScope (top 20)) fa cdv A outer s H E).A (cxOf (L2.CX P w) P w K mg base ["minds", "facts", "thing"] "is_deed" (defScope (top 20)) fa cdv A outer s H E).env (cxOf (L2.CX P w) P w K mg base ["minds", "facts", "thing"] "is_deed" (defScope (top 20)) fa cdv A outer s H E).xe) :
    SSs cl (cxOf (L2.CX P w) P w K mg base ["minds", "facts", "thing"] "is_deed" (defScope (top 20)) fa cdv A outer s H E) (fun cls d _ H' => E cls d H') (defBody (top 20)) (m_is_deed F) := by
  have hu := units_of hr
  exact (ss_one (ss_ret (se_cl T.f_good_deed hr tk (by rfl) (sa_cons (se_var 0) (sa_cons (se_var 1) (sa_cons (se_var 2) sa_nil))))))
def m_need_minds (F : Nat → FN) : ES :=
  (sIf (kNot (eTst (eCl 3 (F 0) (aCons (eVar 0) (aCons (eC (.int 1)) (aCons (eC (.int 3)) aNil)))))) sNever sNx)
theorem sc_need_minds : FnScope ["minds"] ["minds"] (defScope (top 24)) := ⟨rfl, rfl, rfl, by decide +kernel, rfl, by decide +kernel, by decide +kernel⟩
theorem b_need_minds (T : Tb cl P w K mg base k F) (B : Bl mg) (C : Cs ⟨K, w, cl⟩ mg) (cdv : Value) (A : Around) (outer : List Env) (s : Shared) (H : Hp) (E : XK) (hr : Room k (cxOf (L2.CX P w) P w K mg base ["minds"] "need_minds" (defScope (top 24)) fa cdv A outer s H E).A) (tk : Takes (cxOf (L2.CX P w) P w K mg base ["minds"] "need_minds" (defScope (top 24)) fa cdv A outer s H E) (fun cls d _ H' => E cls d H')) (hp : PassesOwn (model P w) (cxOf (L2.CX P w) P w K mg base ["minds"] "need_minds" (defScope (top 24)) fa cdv A outer s H E).A (cxOf (L2.CX P w) P w K mg base ["minds"] "need_minds" (defScope (top 24)) fa cdv A outer s H E).env (cxOf (L2.CX P w) P w K mg base ["minds"] "need_minds" (defScope (top 24)) fa cdv A outer s H E).xe) :
    SSs cl (cxOf (L2.CX P w) P w K mg base ["minds"] "need_minds" (defScope (top 24)) fa cdv A outer s H E) (fun cls d _ H' => E cls d H') (defBody (top 24)) (m_need_minds F) := by
  have hu := units_of hr
  exact (ss_one (ss_if (st_not (st_val (se_cl T.f_is_whole hr tk (by rfl) (sa_cons (se_var 0) (sa_cons se_int (sa_cons se_int sa_nil)))))) (ss_one ss_never) ss_nil))
def m_need_some (F : Nat → FN) : ES :=
  (sSeq (sExpr (eCl 1 (F 10) (aCons (eVar 0) aNil)))
    (sIf (kOr (kNot (eTst (eIsi "list" (eVar 1)))) (kNot (eTst (eCl 2 (F 1) (aCons (eCB bTuple (aCons (eVar 1) aNil)) (aCons (eVar 0) aNil)))))) sNever sNx))
theorem sc_need_some : FnScope ["minds", "some"] ["minds", "some"] (defScope (top 25)) := ⟨rfl, rfl, rfl, by decide +kernel, rfl, by decide +kernel, by decide +kernel⟩
theorem b_need_some (T : Tb cl P w K mg base k F) (B : Bl mg) (C : Cs ⟨K, w, cl⟩ mg) (cdv : Value) (A : Around) (outer : List Env) (s : Shared) (H : Hp) (E : XK) (hr : Room k (cxOf (L2.CX P w) P w K mg base ["minds", "some"] "need_some" (defScope (top 25)) fa cdv A outer s H E).A) (tk : Takes (cxOf (L2.CX P w) P w K mg base ["minds", "some"] "need_some" (defScope (top 25)) fa cdv A outer s H E) (fun cls d _ H' => E cls d H')) (hp : PassesOwn (model P w) (cxOf (L2.CX P w) P w K mg base ["minds", "some"] "need_some" (defScope (top 25)) fa cdv A outer s H E).A (cxOf (L2.CX P w) P w K mg base ["minds", "some"] "need_some" (defScope (top 25)) fa cdv A outer s H E).env (cxOf (L2.CX P w) P w K mg base ["minds", "some"] "need_some" (defScope (top 25)) fa cdv A outer s H E).xe) :
    SSs cl (cxOf (L2.CX P w) P w K mg base ["minds", "some"] "need_some" (defScope (top 25)) fa cdv A outer s H E) (fun cls d _ H' => E cls d H') (defBody (top 25)) (m_need_some F) := by
  have hu := units_of hr
  exact (ss_cons (ss_expr (se_cl T.f_need_minds hr tk (by rfl) (sa_cons (se_var 0) sa_nil)))
    (ss_one (ss_if (st_bool (sw_or (st_not (st_val (se_isi (se_var 1) (by rfl) B.isinstance_ (by rfl) B.list_ bb_list))) (sw_one_or (st_not (st_val (se_cl T.f_are_numbers hr tk (by rfl) (sa_cons (se_callTy c_tuple (by rfl) B.tuple_ bb_tuple (sa_cons (se_var 1) sa_nil)) (sa_cons (se_var 0) sa_nil)))))))) (ss_one ss_never) ss_nil)))
def m_need_fact (F : Nat → FN) : ES :=
  (sIf (kNot (eTst (eCl 3 (F 0) (aCons (eVar 0) (aCons (eC (.int 0)) (aCons (eOp (pur2 (dI iSub)) (eC (.int 4)) (eC (.int 1))) aNil)))))) sNever sNx)
theorem sc_need_fact : FnScope ["fact"] ["fact"] (defScope (top 26)) := ⟨rfl, rfl, rfl, by decide +kernel, rfl, by decide +kernel, by decide +kernel⟩
theorem b_need_fact (T : Tb cl P w K mg base k F) (B : Bl mg) (C : Cs ⟨K, w, cl⟩ mg) (cdv : Value) (A : Around) (outer : List Env) (s : Shared) (H : Hp) (E : XK) (hr : Room k (cxOf (L2.CX P w) P w K mg base ["fact"] "need_fact" (defScope (top 26)) fa cdv A outer s H E).A) (tk : Takes (cxOf (L2.CX P w) P w K mg base ["fact"] "need_fact" (defScope (top 26)) fa cdv A outer s H E) (fun cls d _ H' => E cls d H')) (hp : PassesOwn (model P w) (cxOf (L2.CX P w) P w K mg base ["fact"] "need_fact" (defScope (top 26)) fa cdv A outer s H E).A (cxOf (L2.CX P w) P w K mg base ["fact"] "need_fact" (defScope (top 26)) fa cdv A outer s H E).env (cxOf (L2.CX P w) P w K mg base ["fact"] "need_fact" (defScope (top 26)) fa cdv A outer s H E).xe) :
    SSs cl (cxOf (L2.CX P w) P w K mg base ["fact"] "need_fact" (defScope (top 26)) fa cdv A outer s H E) (fun cls d _ H' => E cls d H') (defBody (top 26)) (m_need_fact F) := by
  have hu := units_of hr
  exact (ss_one (ss_if (st_not (st_val (se_cl T.f_is_whole hr tk (by rfl) (sa_cons (se_var 0) (sa_cons se_int (sa_cons (se_op o_sub (se_gc C.c_FACTS (by rfl)) se_int) sa_nil)))))) (ss_one ss_never) ss_nil))
def m_need_inner (F : Nat → FN) : ES :=
  (sSeq (sSet 3 (eCl 3 (F 4) (aCons (eVar 0) (aCons (eC (.int 4)) (aCons (eVar 1) aNil)))))
    (sIf (kOr (eTst (eOp vIsN (eVar 3) (eC .none))) (kOr (eTst (eOp (pur2 (dI iGt)) (eOp vAdd (eOp vAdd (eOp vIx (eVar 3) (eC (.int 0))) (eVar 2)) (eC (.int 1))) (eC (.int 12)))) (eTst (eOp (pur2 (dI iGt)) (eOp vAdd (eOp vIx (eVar 3) (eC (.int 1))) (eC (.int 1))) (eC (.int 3)))))) sNever sNx))
theorem sc_need_inner : FnScope ["minds", "saying", "more", "size"] ["minds", "saying", "more"] (defScope (top 27)) := ⟨rfl, rfl, rfl, by decide +kernel, rfl, by decide +kernel, by decide +kernel⟩
theorem b_need_inner (T : Tb cl P w K mg base k F) (B : Bl mg) (C : Cs ⟨K, w, cl⟩ mg) (cdv : Value) (A : Around) (outer : List Env) (s : Shared) (H : Hp) (E : XK) (hr : Room k (cxOf (L2.CX P w) P w K mg base ["minds", "saying", "more", "size"] "need_inner" (defScope (top 27)) fa cdv A outer s H E).A) (tk : Takes (cxOf (L2.CX P w) P w K mg base ["minds", "saying", "more", "size"] "need_inner" (defScope (top 27)) fa cdv A outer s H E) (fun cls d _ H' => E cls d H')) (hp : PassesOwn (model P w) (cxOf (L2.CX P w) P w K mg base ["minds", "saying", "more", "size"] "need_inner" (defScope (top 27)) fa cdv A outer s H E).A (cxOf (L2.CX P w) P w K mg base ["minds", "saying", "more", "size"] "need_inner" (defScope (top 27)) fa cdv A outer s H E).env (cxOf (L2.CX P w) P w K mg base ["minds", "saying", "more", "size"] "need_inner" (defScope (top 27)) fa cdv A outer s H E).xe) :
    SSs cl (cxOf (L2.CX P w) P w K mg base ["minds", "saying", "more", "size"] "need_inner" (defScope (top 27)) fa cdv A outer s H E) (fun cls d _ H' => E cls d H') (defBody (top 27)) (m_need_inner F) := by
  have hu := units_of hr
  exact (ss_cons (ss_set 3 sc_need_inner.nd (by rfl) (by first | exact Or.inl rfl | exact Or.inr rfl) (se_cl T.f_size_of hr tk (by rfl) (sa_cons (se_var 0) (sa_cons (se_gc C.c_FACTS (by rfl)) (sa_cons (se_var 1) sa_nil)))))
    (ss_one (ss_if (st_bool (sw_or (st_cmp o_is (se_var 3) se_non (by rfl)) (sw_or (st_cmp o_gt (se_op o_add (se_op o_add (se_ix (se_var 3) se_int (fun _ _ => rfl)) (se_var 2)) se_int) (se_gc C.c_DEEP (by rfl)) (by rfl)) (sw_one_or (st_cmp o_gt (se_op o_add (se_ix (se_var 3) se_int (fun _ _ => rfl)) se_int) (se_gc C.c_AFTER (by rfl)) (by rfl)))))) (ss_one ss_never) ss_nil)))
def m_for_each (F : Nat → FN) : ES :=
  (sRet (eCB bTuple (aCons (eLc [4] (.nm 4) (iRange (aCons (eVar 0) aNil)) kYes (eIf (eTst (eOp vIn (eVar 4) (eVar 1))) (eVar 2) (eVar 3))) aNil)))
theorem sc_for_each : FnScope ["minds", "some", "inside", "outside", "mind"] ["minds", "some", "inside", "outside"] (defScope (top 28)) := ⟨rfl, rfl, rfl, by decide +kernel, rfl, by decide +kernel, by decide +kernel⟩
theorem b_for_each (T : Tb cl P w K mg base k F) (B : Bl mg) (C : Cs ⟨K, w, cl⟩ mg) (cdv : Value) (A : Around) (outer : List Env) (s : Shared) (H : Hp) (E : XK) (hr : Room k (cxOf (L2.CX P w) P w K mg base ["minds", "some", "inside", "outside", "mind"] "for_each" (defScope (top 28)) fa cdv A outer s H E).A) (tk : Takes (cxOf (L2.CX P w) P w K mg base ["minds", "some", "inside", "outside", "mind"] "for_each" (defScope (top 28)) fa cdv A outer s H E) (fun cls d _ H' => E cls d H')) (hp : PassesOwn (model P w) (cxOf (L2.CX P w) P w K mg base ["minds", "some", "inside", "outside", "mind"] "for_each" (defScope (top 28)) fa cdv A outer s H E).A (cxOf (L2.CX P w) P w K mg base ["minds", "some", "inside", "outside", "mind"] "for_each" (defScope (top 28)) fa cdv A outer s H E).env (cxOf (L2.CX P w) P w K mg base ["minds", "some", "inside", "outside", "mind"] "for_each" (defScope (top 28)) fa cdv A outer s H E).xe) :
    SSs cl (cxOf (L2.CX P w) P w K mg base ["minds", "some", "inside", "outside", "mind"] "for_each" (defScope (top 28)) fa cdv A outer s H E) (fun cls d _ H' => E cls d H') (defBody (top 28)) (m_for_each F) := by
  have hu := units_of hr
  exact (ss_one (ss_ret (se_callTy c_tuple (by rfl) B.tuple_ bb_tuple (sa_cons (se_lc (own := [("mind", 4)]) rfl sc_for_each.nd (si_range (by rfl) B.range_ (sa_cons (se_var 0) sa_nil)) (blkOk_by (by kernel_rfl)) (fun _ _ _ _ _ => (sg_name 4 sc_for_each.nd (by rfl) (by first | exact Or.inl rfl | exact Or.inr rfl))) (fun _ _ _ _ _ => sts_nil) (fun _ _ _ _ _ => (se_if (st_cmp (o_in hu) (se_var 4) (se_var 1) (by rfl)) (se_var 2) (se_var 3))) (by decide)) sa_nil))))
def m_aloud (F : Nat → FN) : ES :=
  (sSeq (sExpr (eCl 1 (F 10) (aCons (eVar 0) aNil)))
    (sSeq (sExpr (eCl 3 (F 13) (aCons (eVar 0) (aCons (eVar 1) (aCons (eC (.int 0)) aNil)))))
    (sRet (eTup (aCons (eTup (aCons (eTup (aCons (eVar 1) (aCons (eTup aNil) aNil))) aNil)) (aCons (eOp vMul (eTup (aCons (eTup (aCons (eTup (aCons (eC (.int 0)) aNil)) aNil)) aNil)) (eVar 0)) aNil))))))
theorem sc_aloud : FnScope ["minds", "saying"] ["minds", "saying"] (defScope (top 29)) := ⟨rfl, rfl, rfl, by decide +kernel, rfl, by decide +kernel, by decide +kernel⟩
theorem b_aloud (T : Tb cl P w K mg base k F) (B : Bl mg) (C : Cs ⟨K, w, cl⟩ mg) (cdv : Value) (A : Around) (outer : List Env) (s : Shared) (H : Hp) (E : XK) (hr : Room k (cxOf (L2.CX P w) P w K mg base ["minds", "saying"] "aloud" (defScope (top 29)) fa cdv A outer s H E).A) (tk : Takes (cxOf (L2.CX P w) P w K mg base ["minds", "saying"] "aloud" (defScope (top 29)) fa cdv A outer s H E) (fun cls d _ H' => E cls d H')) (hp : PassesOwn (model P w) (cxOf (L2.CX P w) P w K mg base ["minds", "saying"] "aloud" (defScope (top 29)) fa cdv A outer s H E).A (cxOf (L2.CX P w) P w K mg base ["minds", "saying"] "aloud" (defScope (top 29)) fa cdv A outer s H E).env (cxOf (L2.CX P w) P w K mg base ["minds", "saying"] "aloud" (defScope (top 29)) fa cdv A outer s H E).xe) :
    SSs cl (cxOf (L2.CX P w) P w K mg base ["minds", "saying"] "aloud" (defScope (top 29)) fa cdv A outer s H E) (fun cls d _ H' => E cls d H') (defBody (top 29)) (m_aloud F) := by
  have hu := units_of hr
  exact (ss_cons (ss_expr (se_cl T.f_need_minds hr tk (by rfl) (sa_cons (se_var 0) sa_nil)))
    (ss_cons (ss_expr (se_cl T.f_need_inner hr tk (by rfl) (sa_cons (se_var 0) (sa_cons (se_var 1) (sa_cons se_int sa_nil)))))
    (ss_one (ss_ret (se_tup (sa_cons (se_tup (sa_cons (se_tup (sa_cons (se_var 1) (sa_cons (se_tup sa_nil) sa_nil))) sa_nil)) (sa_cons (se_op o_mul (se_tup (sa_cons (se_tup (sa_cons (se_tup (sa_cons se_int sa_nil)) sa_nil)) sa_nil)) (se_var 0)) sa_nil)))))))
def m_told_some (F : Nat → FN) : ES :=
  (sSeq (sExpr (eCl 2 (F 11) (aCons (eVar 0) (aCons (eVar 1) aNil))))
    (sSeq (sExpr (eCl 3 (F 13) (aCons (eVar 0) (aCons (eVar 2) (aCons (eC (.int 0)) aNil)))))
    (sRet (eTup (aCons (eTup (aCons (eTup (aCons (eVar 2) (aCons (eTup aNil) aNil))) (aCons (eTup (aCons (eC (.tuple [(.str "or"), (.tuple [(.str "fact"), (.int 0)]), (.tuple [(.str "not"), (.tuple [(.str "fact"), (.int 0)])])])) (aCons (eTup aNil) aNil))) aNil))) (aCons (eCl 4 (F 14) (aCons (eVar 0) (aCons (eVar 1) (aCons (eTup (aCons (eTup (aCons (eC (.int 0)) aNil)) (aCons (eTup (aCons (eC (.int 1)) aNil)) aNil))) (aCons (eTup (aCons (eTup (aCons (eC (.int 1)) aNil)) (aCons (eTup (aCons (eC (.int 1)) aNil)) aNil))) aNil))))) aNil))))))
theorem sc_told_some : FnScope ["minds", "some", "saying"] ["minds", "some", "saying"] (defScope (top 30)) := ⟨rfl, rfl, rfl, by decide +kernel, rfl, by decide +kernel, by decide +kernel⟩
theorem b_told_some (T : Tb cl P w K mg base k F) (B : Bl mg) (C : Cs ⟨K, w, cl⟩ mg) (cdv : Value) (A : Around) (outer : List Env) (s : Shared) (H : Hp) (E : XK) (hr : Room k (cxOf (L2.CX P w) P w K mg base ["minds", "some", "saying"] "told_some" (defScope (top 30)) fa cdv A outer s H E).A) (tk : Takes (cxOf (L2.CX P w) P w K mg base ["minds", "some", "saying"] "told_some" (defScope (top 30)) fa cdv A outer s H E) (fun cls d _ H' => E cls d H')) (hp : PassesOwn (model P w) (cxOf (L2.CX P w) P w K mg base ["minds", "some", "saying"] "told_some" (defScope (top 30)) fa cdv A outer s H E).A (cxOf (L2.CX P w) P w K mg base ["minds", "some", "saying"] "told_some" (defScope (top 30)) fa cdv A outer s H E).env (cxOf (L2.CX P w) P w K mg base ["minds", "some", "saying"] "told_some" (defScope (top 30)) fa cdv A outer s H E).xe) :
    SSs cl (cxOf (L2.CX P w) P w K mg base ["minds", "some", "saying"] "told_some" (defScope (top 30)) fa cdv A outer s H E) (fun cls d _ H' => E cls d H') (defBody (top 30)) (m_told_some F) := by
  have hu := units_of hr
  exact (ss_cons (ss_expr (se_cl T.f_need_some hr tk (by rfl) (sa_cons (se_var 0) (sa_cons (se_var 1) sa_nil))))
    (ss_cons (ss_expr (se_cl T.f_need_inner hr tk (by rfl) (sa_cons (se_var 0) (sa_cons (se_var 2) (sa_cons se_int sa_nil)))))
    (ss_one (ss_ret (se_tup (sa_cons (se_tup (sa_cons (se_tup (sa_cons (se_var 2) (sa_cons (se_tup sa_nil) sa_nil))) (sa_cons (se_tup (sa_cons (se_gc C.c_ALWAYS (by rfl)) (sa_cons (se_tup sa_nil) sa_nil))) sa_nil))) (sa_cons (se_cl T.f_for_each hr tk (by rfl) (sa_cons (se_var 0) (sa_cons (se_var 1) (sa_cons (se_tup (sa_cons (se_tup (sa_cons se_int sa_nil)) (sa_cons (se_tup (sa_cons se_int sa_nil)) sa_nil))) (sa_cons (se_tup (sa_cons (se_tup (sa_cons se_int sa_nil)) (sa_cons (se_tup (sa_cons se_int sa_nil)) sa_nil))) sa_nil))))) sa_nil)))))))
def m_whisper (F : Nat → FN) : ES :=
  (sRet (eTup (aCons (eTup (aCons (eTup (aCons (eVar 2) (aCons (eTup aNil) aNil))) (aCons (eTup (aCons (eTup (aCons (eC (.str "not")) (aCons (eVar 2) aNil))) (aCons (eTup aNil) aNil))) aNil))) (aCons (eCl 4 (F 14) (aCons (eVar 0) (aCons (eVar 1) (aCons (eTup (aCons (eTup (aCons (eC (.int 0)) aNil)) (aCons (eTup (aCons (eC (.int 1)) aNil)) aNil))) (aCons (eTup (aCons (eTup (aCons (eC (.int 0)) (aCons (eC (.int 1)) aNil))) (aCons (eTup (aCons (eC (.int 0)) (aCons (eC (.int 1)) aNil))) aNil))) aNil))))) aNil))))
theorem sc_whisper : FnScope ["minds", "some", "saying"] ["minds", "some", "saying"] (defScope (top 31)) := ⟨rfl, rfl, rfl, by decide +kernel, rfl, by decide +kernel, by decide +kernel⟩
theorem b_whisper (T : Tb cl P w K mg base k F) (B : Bl mg) (C : Cs ⟨K, w, cl⟩ mg) (cdv : Value) (A : Around) (outer : List Env) (s : Shared) (H : Hp) (E : XK) (hr : Room k (cxOf (L2.CX P w) P w K mg base ["minds", "some", "saying"] "whisper" (defScope (top 31)) fa cdv A outer s H E).A) (tk : Takes (cxOf (L2.CX P w) P w K mg base ["minds", "some", "saying"] "whisper" (defScope (top 31)) fa cdv A outer s H E) (fun cls d _ H' => E cls d H')) (hp : PassesOwn (model P w) (cxOf (L2.CX P w) P w K mg base ["minds", "some", "saying"] "whisper" (defScope (top 31)) fa cdv A outer s H E).A (cxOf (L2.CX P w) P w K mg base ["minds", "some", "saying"] "whisper" (defScope (top 31)) fa cdv A outer s H E).env (cxOf (L2.CX P w) P w K mg base ["minds", "some", "saying"] "whisper" (defScope (top 31)) fa cdv A outer s H E).xe) :
    SSs cl (cxOf (L2.CX P w) P w K mg base ["minds", "some", "saying"] "whisper" (defScope (top 31)) fa cdv A outer s H E) (fun cls d _ H' => E cls d H') (defBody (top 31)) (m_whisper F) := by
  have hu := units_of hr
  exact (ss_one (ss_ret (se_tup (sa_cons (se_tup (sa_cons (se_tup (sa_cons (se_var 2) (sa_cons (se_tup sa_nil) sa_nil))) (sa_cons (se_tup (sa_cons (se_tup (sa_cons se_str (sa_cons (se_var 2) sa_nil))) (sa_cons (se_tup sa_nil) sa_nil))) sa_nil))) (sa_cons (se_cl T.f_for_each hr tk (by rfl) (sa_cons (se_var 0) (sa_cons (se_var 1) (sa_cons (se_tup (sa_cons (se_tup (sa_cons se_int sa_nil)) (sa_cons (se_tup (sa_cons se_int sa_nil)) sa_nil))) (sa_cons (se_tup (sa_cons (se_tup (sa_cons se_int (sa_cons se_int sa_nil))) (sa_cons (se_tup (sa_cons se_int (sa_cons se_int sa_nil))) sa_nil))) sa_nil))))) sa_nil)))))
def m_whispered (F : Nat → FN) : ES :=
  (sSeq (sExpr (eCl 2 (F 11) (aCons (eVar 0) (aCons (eVar 1) aNil))))
    (sSeq (sExpr (eCl 3 (F 13) (aCons (eVar 0) (aCons (eVar 2) (aCons (eC (.int 1)) aNil)))))
    (sRet (eCl 3 (F 17) (aCons (eVar 0) (aCons (eVar 1) (aCons (eVar 2) aNil)))))))
theorem sc_whispered : FnScope ["minds", "some", "saying"] ["minds", "some", "saying"] (defScope (top 32)) := ⟨rfl, rfl, rfl, by decide +kernel, rfl, by decide +kernel, by decide +kernel⟩
theorem b_whispered (T : Tb cl P w K mg base k F) (B : Bl mg) (C : Cs ⟨K, w, cl⟩ mg) (cdv : Value) (A : Around) (outer : List Env) (s : Shared) (H : Hp) (E : XK) (hr : Room k (cxOf (L2.CX P w) P w K mg base ["minds", "some", "saying"] "whispered" (defScope (top 32)) fa cdv A outer s H E).A) (tk : Takes (cxOf (L2.CX P w) P w K mg base ["minds", "some", "saying"] "whispered" (defScope (top 32)) fa cdv A outer s H E) (fun cls d _ H' => E cls d H')) (hp : PassesOwn (model P w) (cxOf (L2.CX P w) P w K mg base ["minds", "some", "saying"] "whispered" (defScope (top 32)) fa cdv A outer s H E).A (cxOf (L2.CX P w) P w K mg base ["minds", "some", "saying"] "whispered" (defScope (top 32)) fa cdv A outer s H E).env (cxOf (L2.CX P w) P w K mg base ["minds", "some", "saying"] "whispered" (defScope (top 32)) fa cdv A outer s H E).xe) :
    SSs cl (cxOf (L2.CX P w) P w K mg base ["minds", "some", "saying"] "whispered" (defScope (top 32)) fa cdv A outer s H E) (fun cls d _ H' => E cls d H') (defBody (top 32)) (m_whispered F) := by
  have hu := units_of hr
  exact (ss_cons (ss_expr (se_cl T.f_need_some hr tk (by rfl) (sa_cons (se_var 0) (sa_cons (se_var 1) sa_nil))))
    (ss_cons (ss_expr (se_cl T.f_need_inner hr tk (by rfl) (sa_cons (se_var 0) (sa_cons (se_var 2) (sa_cons se_int sa_nil)))))
    (ss_one (ss_ret (se_cl T.f_whisper hr tk (by rfl) (sa_cons (se_var 0) (sa_cons (se_var 1) (sa_cons (se_var 2) sa_nil))))))))
def m_looked (F : Nat → FN) : ES :=
  (sSeq (sExpr (eCl 2 (F 11) (aCons (eVar 0) (aCons (eVar 1) aNil))))
    (sSeq (sExpr (eCl 1 (F 12) (aCons (eVar 2) aNil)))
    (sRet (eCl 3 (F 17) (aCons (eVar 0) (aCons (eVar 1) (aCons (eTup (aCons (eC (.str "fact")) (aCons (eVar 2) aNil))) aNil)))))))
theorem sc_looked : FnScope ["minds", "some", "fact"] ["minds", "some", "fact"] (defScope (top 33)) := ⟨rfl, rfl, rfl, by decide +kernel, rfl, by decide +kernel, by decide +kernel⟩
theorem b_looked (T : Tb cl P w K mg base k F) (B : Bl mg) (C : Cs ⟨K, w, cl⟩ mg) (cdv : Value) (A : Around) (outer : List Env) (s : Shared) (H : Hp) (E : XK) (hr : Room k (cxOf (L2.CX P w) P w K mg base ["minds", "some", "fact"] "looked" (defScope (top 33)) fa cdv A outer s H E).A) (tk : Takes (cxOf (L2.CX P w) P w K mg base ["minds", "some", "fact"] "looked" (defScope (top 33)) fa cdv A outer s H E) (fun cls d _ H' => E cls d H')) (hp : PassesOwn (model P w) (cxOf (L2.CX P w) P w K mg base ["minds", "some", "fact"] "looked" (defScope (top 33)) fa cdv A outer s H E).A (cxOf (L2.CX P w) P w K mg base ["minds", "some", "fact"] "looked" (defScope (top 33)) fa cdv A outer s H E).env (cxOf (L2.CX P w) P w K mg base ["minds", "some", "fact"] "looked" (defScope (top 33)) fa cdv A outer s H E).xe) :
    SSs cl (cxOf (L2.CX P w) P w K mg base ["minds", "some", "fact"] "looked" (defScope (top 33)) fa cdv A outer s H E) (fun cls d _ H' => E cls d H') (defBody (top 33)) (m_looked F) := by
  have hu := units_of hr
  exact (ss_cons (ss_expr (se_cl T.f_need_some hr tk (by rfl) (sa_cons (se_var 0) (sa_cons (se_var 1) sa_nil))))
    (ss_cons (ss_expr (se_cl T.f_need_fact hr tk (by rfl) (sa_cons (se_var 2) sa_nil)))
    (ss_one (ss_ret (se_cl T.f_whisper hr tk (by rfl) (sa_cons (se_var 0) (sa_cons (se_var 1) (sa_cons (se_tup (sa_cons se_str (sa_cons (se_var 2) sa_nil))) sa_nil))))))))
def m_lied (F : Nat → FN) : ES :=
  (sSeq (sExpr (eCl 2 (F 11) (aCons (eVar 0) (aCons (eVar 1) aNil))))
    (sSeq (sExpr (eCl 3 (F 13) (aCons (eVar 0) (aCons (eVar 2) (aCons (eC (.int 1)) aNil)))))
    (sRet (eTup (aCons (eTup (aCons (eTup (aCons (eTup (aCons (eC (.str "not")) (aCons (eVar 2) aNil))) (aCons (eTup aNil) aNil))) (aCons (eTup (aCons (eVar 2) (aCons (eTup aNil) aNil))) aNil))) (aCons (eCl 4 (F 14) (aCons (eVar 0) (aCons (eVar 1) (aCons (eTup (aCons (eTup (aCons (eC (.int 1)) aNil)) (aCons (eTup (aCons (eC (.int 1)) aNil)) aNil))) (aCons (eTup (aCons (eTup (aCons (eC (.int 0)) aNil)) (aCons (eTup (aCons (eC (.int 1)) aNil)) aNil))) aNil))))) aNil))))))
theorem sc_lied : FnScope ["minds", "some", "saying"] ["minds", "some", "saying"] (defScope (top 34)) := ⟨rfl, rfl, rfl, by decide +kernel, rfl, by decide +kernel, by decide +kernel⟩
theorem b_lied (T : Tb cl P w K mg base k F) (B : Bl mg) (C : Cs ⟨K, w, cl⟩ mg) (cdv : Value) (A : Around) (outer : List Env) (s : Shared) (H : Hp) (E : XK) (hr : Room k (cxOf (L2.CX P w) P w K mg base ["minds", "some", "saying"] "lied" (defScope (top 34)) fa cdv A outer s H E).A) (tk : Takes (cxOf (L2.CX P w) P w K mg base ["minds", "some", "saying"] "lied" (defScope (top 34)) fa cdv A outer s H E) (fun cls d _ H' => E cls d H')) (hp : PassesOwn (model P w) (cxOf (L2.CX P w) P w K mg base ["minds", "some", "saying"] "lied" (defScope (top 34)) fa cdv A outer s H E).A (cxOf (L2.CX P w) P w K mg base ["minds", "some", "saying"] "lied" (defScope (top 34)) fa cdv A outer s H E).env (cxOf (L2.CX P w) P w K mg base ["minds", "some", "saying"] "lied" (defScope (top 34)) fa cdv A outer s H E).xe) :
    SSs cl (cxOf (L2.CX P w) P w K mg base ["minds", "some", "saying"] "lied" (defScope (top 34)) fa cdv A outer s H E) (fun cls d _ H' => E cls d H') (defBody (top 34)) (m_lied F) := by
  have hu := units_of hr
  exact (ss_cons (ss_expr (se_cl T.f_need_some hr tk (by rfl) (sa_cons (se_var 0) (sa_cons (se_var 1) sa_nil))))
    (ss_cons (ss_expr (se_cl T.f_need_inner hr tk (by rfl) (sa_cons (se_var 0) (sa_cons (se_var 2) (sa_cons se_int sa_nil)))))
    (ss_one (ss_ret (se_tup (sa_cons (se_tup (sa_cons (se_tup (sa_cons (se_tup (sa_cons se_str (sa_cons (se_var 2) sa_nil))) (sa_cons (se_tup sa_nil) sa_nil))) (sa_cons (se_tup (sa_cons (se_var 2) (sa_cons (se_tup sa_nil) sa_nil))) sa_nil))) (sa_cons (se_cl T.f_for_each hr tk (by rfl) (sa_cons (se_var 0) (sa_cons (se_var 1) (sa_cons (se_tup (sa_cons (se_tup (sa_cons se_int sa_nil)) (sa_cons (se_tup (sa_cons se_int sa_nil)) sa_nil))) (sa_cons (se_tup (sa_cons (se_tup (sa_cons se_int sa_nil)) (sa_cons (se_tup (sa_cons se_int sa_nil)) sa_nil))) sa_nil))))) sa_nil)))))))
def m_become (F : Nat → FN) : ES :=
  (sSeq (sExpr (eCl 1 (F 10) (aCons (eVar 0) aNil)))
    (sSeq (sExpr (eCl 1 (F 12) (aCons (eVar 1) aNil)))
    (sSeq (sExpr (eCl 3 (F 13) (aCons (eVar 0) (aCons (eVar 2) (aCons (eC (.int 0)) aNil)))))
    (sRet (eTup (aCons (eTup (aCons (eTup (aCons (eC (.tuple [(.str "or"), (.tuple [(.str "fact"), (.int 0)]), (.tuple [(.str "not"), (.tuple [(.str "fact"), (.int 0)])])])) (aCons (eTup (aCons (eTup (aCons (eVar 1) (aCons (eVar 2) aNil))) aNil)) aNil))) aNil)) (aCons (eOp vMul (eTup (aCons (eTup (aCons (eTup (aCons (eC (.int 0)) aNil)) aNil)) aNil)) (eVar 0)) aNil)))))))
theorem sc_become : FnScope ["minds", "fact", "saying"] ["minds", "fact", "saying"] (defScope (top 35)) := ⟨rfl, rfl, rfl, by decide +kernel, rfl, by decide +kernel, by decide +kernel⟩
theorem b_become (T : Tb cl P w K mg base k F) (B : Bl mg) (C : Cs ⟨K, w, cl⟩ mg) (cdv : Value) (A : Around) (outer : List Env) (s : Shared) (H : Hp) (E : XK) (hr : Room k (cxOf (L2.CX P w) P w K mg base ["minds", "fact", "saying"] "become" (defScope (top 35)) fa cdv A outer s H E).A) (tk : Takes (cxOf (L2.CX P w) P w K mg base ["minds", "fact", "saying"] "become" (defScope (top 35)) fa cdv A outer s H E) (fun cls d _ H' => E cls d H')) (hp : PassesOwn (model P w) (cxOf (L2.CX P w) P w K mg base ["minds", "fact", "saying"] "become" (defScope (top 35)) fa cdv A outer s H E).A (cxOf (L2.CX P w) P w K mg base ["minds", "fact", "saying"] "become" (defScope (top 35)) fa cdv A outer s H E).env (cxOf (L2.CX P w) P w K mg base ["minds", "fact", "saying"] "become" (defScope (top 35)) fa cdv A outer s H E).xe) :
    SSs cl (cxOf (L2.CX P w) P w K mg base ["minds", "fact", "saying"] "become" (defScope (top 35)) fa cdv A outer s H E) (fun cls d _ H' => E cls d H') (defBody (top 35)) (m_become F) := by
  have hu := units_of hr
  exact (ss_cons (ss_expr (se_cl T.f_need_minds hr tk (by rfl) (sa_cons (se_var 0) sa_nil)))
    (ss_cons (ss_expr (se_cl T.f_need_fact hr tk (by rfl) (sa_cons (se_var 1) sa_nil)))
    (ss_cons (ss_expr (se_cl T.f_need_inner hr tk (by rfl) (sa_cons (se_var 0) (sa_cons (se_var 2) (sa_cons se_int sa_nil)))))
    (ss_one (ss_ret (se_tup (sa_cons (se_tup (sa_cons (se_tup (sa_cons (se_gc C.c_ALWAYS (by rfl)) (sa_cons (se_tup (sa_cons (se_tup (sa_cons (se_var 1) (sa_cons (se_var 2) sa_nil))) sa_nil)) sa_nil))) sa_nil)) (sa_cons (se_op o_mul (se_tup (sa_cons (se_tup (sa_cons (se_tup (sa_cons se_int sa_nil)) sa_nil)) sa_nil)) (se_var 0)) sa_nil))))))))
def m__law_cell_at (F : Nat → FN) : ES :=
  (sSeq (sIf (eTst (eOp (pur2 (dI iLt)) (eVar 1) (eCB bLen (aCons (eVar 0) aNil)))) (sRet (eOp vIx (eVar 0) (eVar 1))) sNx)
    (sSeq (sIf (eTst (eOp vEq (eVar 0) (eLst aNil))) (sRet (eC (.int 0))) sNx)
    (sSeq (sSet 2 (eOp vIx (eVar 0) (eOp (pur2 (dI iMod)) (eVar 1) (eCB bLen (aCons (eVar 0) aNil)))))
    (sSeq (sFor (.nm 3) (iRange (aCons (eCB bMin (aCons (eOp (pur2 (dI iDiv)) (eVar 1) (eCB bLen (aCons (eVar 0) aNil))) (aCons (eC (.int 60)) aNil))) aNil)) (sSet 2 (eOp (pur2 (dI iDiv)) (eVar 2) (eC (.int 1000003)))))
    (sRet (eOp vAdd (eOp vAdd (eOp vMul (eOp vIx (eVar 0) (eOp (pur2 (dI iMod)) (eVar 1) (eCB bLen (aCons (eVar 0) aNil)))) (eC (.int 31))) (eVar 1)) (eOp vMul (eVar 2) (eC (.int 101)))))))))
theorem sc__law_cell_at : FnScope ["script", "k", "rest", "again"] ["script", "k"] (defScope (top 37)) := ⟨rfl, rfl, rfl, by decide +kernel, rfl, by decide +kernel, by decide +kernel⟩
theorem b__law_cell_at (T : Tb cl P w K mg base k F) (B : Bl mg) (C : Cs ⟨K, w, cl⟩ mg) (cdv : Value) (A : Around) (outer : List Env) (s : Shared) (H : Hp) (E : XK) (hr : Room k (cxOf (L2.CX P w) P w K mg base ["script", "k", "rest", "again"] "_law_cell_at" (defScope (top 37)) fa cdv A outer s H E).A) (tk : Takes (cxOf (L2.CX P w) P w K mg base ["script", "k", "rest", "again"] "_law_cell_at" (defScope (top 37)) fa cdv A outer s H E) (fun cls d _ H' => E cls d H')) (hp : PassesOwn (model P w) (cxOf (L2.CX P w) P w K mg base ["script", "k", "rest", "again"] "_law_cell_at" (defScope (top 37)) fa cdv A outer s H E).A (cxOf (L2.CX P w) P w K mg base ["script", "k", "rest", "again"] "_law_cell_at" (defScope (top 37)) fa cdv A outer s H E).env (cxOf (L2.CX P w) P w K mg base ["script", "k", "rest", "again"] "_law_cell_at" (defScope (top 37)) fa cdv A outer s H E).xe) :
    SSs cl (cxOf (L2.CX P w) P w K mg base ["script", "k", "rest", "again"] "_law_cell_at" (defScope (top 37)) fa cdv A outer s H E) (fun cls d _ H' => E cls d H') (defBody (top 37)) (m__law_cell_at F) := by
  have hu := units_of hr
  exact (ss_cons (ss_if (st_cmp o_lt (se_var 1) (se_callB c_len (by rfl) B.len_ bb_len (sa_cons (se_var 0) sa_nil)) (by rfl)) (ss_one (ss_ret (se_ix (se_var 0) (se_var 1) (fun _ _ => rfl)))) ss_nil)
    (ss_cons (ss_if (st_cmp (o_eq hu) (se_var 0) (se_lst sa_nil) (by rfl)) (ss_one (ss_ret se_int)) ss_nil)
    (ss_cons (ss_set 2 sc__law_cell_at.nd (by rfl) (by first | exact Or.inl rfl | exact Or.inr rfl) (se_ix (se_var 0) (se_op o_mod (se_var 1) (se_callB c_len (by rfl) B.len_ bb_len (sa_cons (se_var 0) sa_nil))) (fun _ _ => rfl)))
    (ss_cons (ss_for hp rfl (si_range (by rfl) B.range_ (sa_cons (se_callB (c_min rfl) (by rfl) B.min_ bb_min (sa_cons (se_op o_div (se_var 1) (se_callB c_len (by rfl) B.len_ bb_len (sa_cons (se_var 0) sa_nil))) (sa_cons se_int sa_nil))) sa_nil)) (sg_name 3 sc__law_cell_at.nd (by rfl) (by first | exact Or.inl rfl | exact Or.inr rfl)) (ss_one (ss_set 2 sc__law_cell_at.nd (by rfl) (by first | exact Or.inl rfl | exact Or.inr rfl) (se_op o_div (se_var 2) se_int))))
    (ss_one (ss_ret (se_op o_add (se_op o_add (se_op o_mul (se_ix (se_var 0) (se_op o_mod (se_var 1) (se_callB c_len (by rfl) B.len_ bb_len (sa_cons (se_var 0) sa_nil))) (fun _ _ => rfl)) se_int) (se_var 1)) (se_op o_mul (se_var 2) se_int))))))))
def m__law_mixed (F : Nat → FN) : ES :=
  (sSeq (sSet 3 (eOp (pur2 (dI iMod)) (eOp vAdd (eOp vAdd (eOp vMul (eCl 2 (F 22) (aCons (eVar 0) (aCons (eVar 1) aNil))) (eC (.int 1103515245))) (eOp vMul (eC (.int 7919)) (eVar 1))) (eC (.int 12345))) (eC (.int 2147483647))))
    (sRet (eOp (pur2 (dI iMod)) (eOp (pur2 (dI iMod)) (eOp (pur2 (dI iMod)) (eOp (pur2 (dI iPow)) (eVar 3) (eC (.int 5))) (eC (.int 2147483647))) (eC (.int 999983))) (eVar 2))))
theorem sc__law_mixed : FnScope ["script", "k", "bound", "drawn"] ["script", "k", "bound"] (defScope (top 38)) := ⟨rfl, rfl, rfl, by decide +kernel, rfl, by decide +kernel, by decide +kernel⟩
theorem b__law_mixed (T : Tb cl P w K mg base k F) (B : Bl mg) (C : Cs ⟨K, w, cl⟩ mg) (cdv : Value) (A : Around) (outer : List Env) (s : Shared) (H : Hp) (E : XK) (hr : Room k (cxOf (L2.CX P w) P w K mg base ["script", "k", "bound", "drawn"] "_law_mixed" (defScope (top 38)) fa cdv A outer s H E).A) (tk : Takes (cxOf (L2.CX P w) P w K mg base ["script", "k", "bound", "drawn"] "_law_mixed" (defScope (top 38)) fa cdv A outer s H E) (fun cls d _ H' => E cls d H')) (hp : PassesOwn (model P w) (cxOf (L2.CX P w) P w K mg base ["script", "k", "bound", "drawn"] "_law_mixed" (defScope (top 38)) fa cdv A outer s H E).A (cxOf (L2.CX P w) P w K mg base ["script", "k", "bound", "drawn"] "_law_mixed" (defScope (top 38)) fa cdv A outer s H E).env (cxOf (L2.CX P w) P w K mg base ["script", "k", "bound", "drawn"] "_law_mixed" (defScope (top 38)) fa cdv A outer s H E).xe) :
    SSs cl (cxOf (L2.CX P w) P w K mg base ["script", "k", "bound", "drawn"] "_law_mixed" (defScope (top 38)) fa cdv A outer s H E) (fun cls d _ H' => E cls d H') (defBody (top 38)) (m__law_mixed F) := by
  have hu := units_of hr
  exact (ss_cons (ss_set 3 sc__law_mixed.nd (by rfl) (by first | exact Or.inl rfl | exact Or.inr rfl) (se_op o_mod (se_op o_add (se_op o_add (se_op o_mul (se_cl T.f__law_cell_at hr tk (by rfl) (sa_cons (se_var 0) (sa_cons (se_var 1) sa_nil))) se_int) (se_op o_mul se_int (se_var 1))) se_int) se_int))
    (ss_one (ss_ret (se_op o_mod (se_op o_mod (se_op o_mod (se_op o_pow (se_var 3) se_int) se_int) se_int) (se_var 2)))))
def m__law_draw (F : Nat → FN) : ES :=
  (sSeq (sExpr (eAppend (eVar 1) (eC (.int 0))))
    (sRet (eCl 3 (F 23) (aCons (eVar 0) (aCons (eCB bLen (aCons (eVar 1) aNil)) (aCons (eVar 2) aNil))))))
theorem sc__law_draw : FnScope ["script", "town", "bound"] ["script", "town", "bound"] (defScope (top 39)) := ⟨rfl, rfl, rfl, by decide +kernel, rfl, by decide +kernel, by decide +kernel⟩
theorem b__law_draw (T : Tb cl P w K mg base k F) (B : Bl mg) (C : Cs ⟨K, w, cl⟩ mg) (cdv : Value) (A : Around) (outer : List Env) (s : Shared) (H : Hp) (E : XK) (hr : Room k (cxOf (L2.CX P w) P w K mg base ["script", "town", "bound"] "_law_draw" (defScope (top 39)) fa cdv A outer s H E).A) (tk : Takes (cxOf (L2.CX P w) P w K mg base ["script", "town", "bound"] "_law_draw" (defScope (top 39)) fa cdv A outer s H E) (fun cls d _ H' => E cls d H')) (hp : PassesOwn (model P w) (cxOf (L2.CX P w) P w K mg base ["script", "town", "bound"] "_law_draw" (defScope (top 39)) fa cdv A outer s H E).A (cxOf (L2.CX P w) P w K mg base ["script", "town", "bound"] "_law_draw" (defScope (top 39)) fa cdv A outer s H E).env (cxOf (L2.CX P w) P w K mg base ["script", "town", "bound"] "_law_draw" (defScope (top 39)) fa cdv A outer s H E).xe) :
    SSs cl (cxOf (L2.CX P w) P w K mg base ["script", "town", "bound"] "_law_draw" (defScope (top 39)) fa cdv A outer s H E) (fun cls d _ H' => E cls d H') (defBody (top 39)) (m__law_draw F) := by
  have hu := units_of hr
  exact (ss_cons (ss_expr (se_append (se_var 1) se_int))
    (ss_one (ss_ret (se_cl T.f__law_mixed hr tk (by rfl) (sa_cons (se_var 0) (sa_cons (se_callB c_len (by rfl) B.len_ bb_len (sa_cons (se_var 1) sa_nil)) (sa_cons (se_var 2) sa_nil)))))))
def m__law_pick (F : Nat → FN) : ES :=
  (sRet (eOp vIx (eVar 2) (eCl 3 (F 24) (aCons (eVar 0) (aCons (eVar 1) (aCons (eCB bLen (aCons (eVar 2) aNil)) aNil))))))
theorem sc__law_pick : FnScope ["script", "town", "some"] ["script", "town", "some"] (defScope (top 40)) := ⟨rfl, rfl, rfl, by decide +kernel, rfl, by decide +kernel, by decide +kernel⟩
theorem b__law_pick (T : Tb cl P w K mg base k F) (B : Bl mg) (C : Cs ⟨K, w, cl⟩ mg) (cdv : Value) (A : Around) (outer : List Env) (s : Shared) (H : Hp) (E : XK) (hr : Room k (cxOf (L2.CX P w) P w K mg base ["script", "town", "some"] "_law_pick" (defScope (top 40)) fa cdv A outer s H E).A) (tk : Takes (cxOf (L2.CX P w) P w K mg base ["script", "town", "some"] "_law_pick" (defScope (top 40)) fa cdv A outer s H E) (fun cls d _ H' => E cls d H')) (hp : PassesOwn (model P w) (cxOf (L2.CX P w) P w K mg base ["script", "town", "some"] "_law_pick" (defScope (top 40)) fa cdv A outer s H E).A (cxOf (L2.CX P w) P w K mg base ["script", "town", "some"] "_law_pick" (defScope (top 40)) fa cdv A outer s H E).env (cxOf (L2.CX P w) P w K mg base ["script", "town", "some"] "_law_pick" (defScope (top 40)) fa cdv A outer s H E).xe) :
    SSs cl (cxOf (L2.CX P w) P w K mg base ["script", "town", "some"] "_law_pick" (defScope (top 40)) fa cdv A outer s H E) (fun cls d _ H' => E cls d H') (defBody (top 40)) (m__law_pick F) := by
  have hu := units_of hr
  exact (ss_one (ss_ret (se_ix (se_var 2) (se_cl T.f__law_draw hr tk (by rfl) (sa_cons (se_var 0) (sa_cons (se_var 1) (sa_cons (se_callB c_len (by rfl) B.len_ bb_len (sa_cons (se_var 2) sa_nil)) sa_nil)))) (fun _ _ => rfl))))
def m__law_plain (F : Nat → FN) : ES :=
  (sSeq (sSet 5 (eCl 3 (F 24) (aCons (eVar 0) (aCons (eVar 1) (aCons (eC (.int 9)) aNil)))))
    (sSeq (sIf (kOr (eTst (eOp vEq (eVar 4) (eC (.int 1)))) (eTst (eOp vEq (eVar 5) (eC (.int 0))))) (sRet (eTup (aCons (eC (.str "fact")) (aCons (eCl 3 (F 24) (aCons (eVar 0) (aCons (eVar 1) (aCons (eVar 3) aNil)))) aNil)))) sNx)
    (sSeq (sSet 6 (eCl 5 (F 26) (aCons (eVar 0) (aCons (eVar 1) (aCons (eVar 2) (aCons (eVar 3) (aCons (eOp (pur2 (dI iSub)) (eVar 4) (eC (.int 1))) aNil)))))))
    (sSeq (sIf (eTst (eOp (pur2 (dI iLt)) (eVar 5) (eC (.int 3)))) (sRet (eTup (aCons (eC (.str "not")) (aCons (eVar 6) aNil)))) sNx)
    (sSeq (sIf (eTst (eOp (pur2 (dI iLt)) (eVar 5) (eC (.int 6)))) (sRet (eTup (aCons (eCl 3 (F 25) (aCons (eVar 0) (aCons (eVar 1) (aCons (eLst (aCons (eC (.str "holds")) (aCons (eC (.str "holds")) (aCons (eC (.str "may")) aNil)))) aNil)))) (aCons (eCl 3 (F 24) (aCons (eVar 0) (aCons (eVar 1) (aCons (eVar 2) aNil)))) (aCons (eVar 6) aNil))))) sNx)
    (sSeq (sIf (eTst (eOp vEq (eVar 5) (eC (.int 6)))) (sRet (eTup (aCons (eCl 3 (F 25) (aCons (eVar 0) (aCons (eVar 1) (aCons (eLst (aCons (eC (.str "all")) (aCons (eC (.str "common")) aNil))) aNil)))) (aCons (eVar 6) aNil)))) sNx)
    (sRet (eTup (aCons (eCl 3 (F 25) (aCons (eVar 0) (aCons (eVar 1) (aCons (eLst (aCons (eC (.str "and")) (aCons (eC (.str "or")) aNil))) aNil)))) (aCons (eVar 6) (aCons (eCl 5 (F 26) (aCons (eVar 0) (aCons (eVar 1) (aCons (eVar 2) (aCons (eVar 3) (aCons (eOp (pur2 (dI iSub)) (eVar 4) (eC (.int 1))) aNil)))))) aNil)))))))))))
theorem sc__law_plain : FnScope ["script", "town", "minds", "facts", "deep", "word", "inner"] ["script", "town", "minds", "facts", "deep"] (defScope (top 41)) := ⟨rfl, rfl, rfl, by decide +kernel, rfl, by decide +kernel, by decide +kernel⟩
theorem b__law_plain (T : Tb cl P w K mg base k F) (B : Bl mg) (C : Cs ⟨K, w, cl⟩ mg) (cdv : Value) (A : Around) (outer : List Env) (s : Shared) (H : Hp) (E : XK) (hr : Room k (cxOf (L2.CX P w) P w K mg base ["script", "town", "minds", "facts", "deep", "word", "inner"] "_law_plain" (defScope (top 41)) fa cdv A outer s H E).A) (tk : Takes (cxOf (L2.CX P w) P w K mg base ["script", "town", "minds", "facts", "deep", "word", "inner"] "_law_plain" (defScope (top 41)) fa cdv A outer s H E) (fun cls d _ H' => E cls d H')) (hp : PassesOwn (model P w) (cxOf (L2.CX P w) P w K mg base ["script", "town", "minds", "facts", "deep", "word", "inner"] "_law_plain" (defScope (top 41)) fa cdv A outer s H E).A (cxOf (L2.CX P w) P w K mg base ["script", "town", "minds", "facts", "deep", "word", "inner"] "_law_plain" (defScope (top 41)) fa cdv A outer s H E).env (cxOf (L2.CX P w) P w K mg base ["script", "town", "minds", "facts", "deep", "word", "inner"] "_law_plain" (defScope (top 41)) fa cdv A outer s H E).xe) :
    SSs cl (cxOf (L2.CX P w) P w K mg base ["script", "town", "minds", "facts", "deep", "word", "inner"] "_law_plain" (defScope (top 41)) fa cdv A outer s H E) (fun cls d _ H' => E cls d H') (defBody (top 41)) (m__law_plain F) := by
  have hu := units_of hr
  exact (ss_cons (ss_set 5 sc__law_plain.nd (by rfl) (by first | exact Or.inl rfl | exact Or.inr rfl) (se_cl T.f__law_draw hr tk (by rfl) (sa_cons (se_var 0) (sa_cons (se_var 1) (sa_cons se_int sa_nil)))))
    (ss_cons (ss_if (st_bool (sw_or (st_cmp (o_eq hu) (se_var 4) se_int (by rfl)) (sw_one_or (st_cmp (o_eq hu) (se_var 5) se_int (by rfl))))) (ss_one (ss_ret (se_tup (sa_cons se_str (sa_cons (se_cl T.f__law_draw hr tk (by rfl) (sa_cons (se_var 0) (sa_cons (se_var 1) (sa_cons (se_var 3) sa_nil)))) sa_nil))))) ss_nil)
    (ss_cons (ss_set 6 sc__law_plain.nd (by rfl) (by first | exact Or.inl rfl | exact Or.inr rfl) (se_cl T.f__law_plain hr tk (by rfl) (sa_cons (se_var 0) (sa_cons (se_var 1) (sa_cons (se_var 2) (sa_cons (se_var 3) (sa_cons (se_op o_sub (se_var 4) se_int) sa_nil)))))))
    (ss_cons (ss_if (st_cmp o_lt (se_var 5) se_int (by rfl)) (ss_one (ss_ret (se_tup (sa_cons se_str (sa_cons (se_var 6) sa_nil))))) ss_nil)
    (ss_cons (ss_if (st_cmp o_lt (se_var 5) se_int (by rfl)) (ss_one (ss_ret (se_tup (sa_cons (se_cl T.f__law_pick hr tk (by rfl) (sa_cons (se_var 0) (sa_cons (se_var 1) (sa_cons (se_lst (sa_cons se_str (sa_cons se_str (sa_cons se_str sa_nil)))) sa_nil)))) (sa_cons (se_cl T.f__law_draw hr tk (by rfl) (sa_cons (se_var 0) (sa_cons (se_var 1) (sa_cons (se_var 2) sa_nil)))) (sa_cons (se_var 6) sa_nil)))))) ss_nil)
    (ss_cons (ss_if (st_cmp (o_eq hu) (se_var 5) se_int (by rfl)) (ss_one (ss_ret (se_tup (sa_cons (se_cl T.f__law_pick hr tk (by rfl) (sa_cons (se_var 0) (sa_cons (se_var 1) (sa_cons (se_lst (sa_cons se_str (sa_cons se_str sa_nil))) sa_nil)))) (sa_cons (se_var 6) sa_nil))))) ss_nil)
    (ss_one (ss_ret (se_tup (sa_cons (se_cl T.f__law_pick hr tk (by rfl) (sa_cons (se_var 0) (sa_cons (se_var 1) (sa_cons (se_lst (sa_cons se_str (sa_cons se_str sa_nil))) sa_nil)))) (sa_cons (se_var 6) (sa_cons (se_cl T.f__law_plain hr tk (by rfl) (sa_cons (se_var 0) (sa_cons (se_var 1) (sa_cons (se_var 2) (sa_cons (se_var 3) (sa_cons (se_op o_sub (se_var 4) se_int) sa_nil)))))) sa_nil))))))))))))
def m_law (F : Nat → FN) : ES :=
  (sSeq (sSet 1 (eLstR aNil))
    (sSeq (sSet 2 (eOp vAdd (eC (.int 1)) (eCl 3 (F 24) (aCons (eVar 0) (aCons (eVar 1) (aCons (eC (.int 3)) aNil))))))
    (sSeq (sSet 3 (eLc [10] (.nm 10) (iRange (aCons (eVar 2) aNil)) (eTst (eOp vEq (eCl 3 (F 24) (aCons (eVar 0) (aCons (eVar 1) (aCons (eC (.int 2)) aNil)))) (eC (.int 0)))) (eVar 10)))
    (sSeq (sParN [4, 5] (aCons (eCl 5 (F 26) (aCons (eVar 0) (aCons (eVar 1) (aCons (eVar 2) (aCons (eC (.int 4)) (aCons (eC (.int 4)) aNil)))))) (aCons (eCl 3 (F 24) (aCons (eVar 0) (aCons (eVar 1) (aCons (eC (.int 4)) aNil)))) aNil)))
    (sSeq (sParN [6, 7] (aCons (eTup (aCons (eC (.str "or")) (aCons (eTup (aCons (eC (.str "fact")) (aCons (eC (.int 0)) aNil))) (aCons (eTup (aCons (eC (.str "not")) (aCons (eTup (aCons (eC (.str "fact")) (aCons (eC (.int 0)) aNil))) aNil))) aNil)))) (aCons (eCB bTuple (aCons (eLc [10] (.nm 10) (iRange (aCons (eVar 2) aNil)) kYes (eTup (aCons (eTup (aCons (eC (.int 0)) aNil)) aNil))) aNil)) aNil)))
    (sSeq (sIf (eTst (eOp vNe (eCl 2 (F 15) (aCons (eVar 2) (aCons (eVar 4) aNil))) (eTup (aCons (eTup (aCons (eTup (aCons (eVar 4) (aCons (eTup aNil) aNil))) aNil)) (aCons (eVar 7) aNil))))) (sRet (eC (.bool false))) sNx)
    (sSeq (sIf (eTst (eOp vNe (eCl 3 (F 21) (aCons (eVar 2) (aCons (eVar 5) (aCons (eVar 4) aNil)))) (eTup (aCons (eTup (aCons (eTup (aCons (eVar 6) (aCons (eTup (aCons (eTup (aCons (eVar 5) (aCons (eVar 4) aNil))) aNil)) aNil))) aNil)) (aCons (eVar 7) aNil))))) (sRet (eC (.bool false))) sNx)
    (sSeq (sSet 8 (eCB bTuple (aCons (eLc [10] (.nm 10) (iRange (aCons (eVar 2) aNil)) kYes (eIf (eTst (eOp vIn (eVar 10) (eVar 3))) (eTup (aCons (eTup (aCons (eC (.int 0)) aNil)) (aCons (eTup (aCons (eC (.int 1)) aNil)) aNil))) (eTup (aCons (eTup (aCons (eC (.int 1)) aNil)) (aCons (eTup (aCons (eC (.int 1)) aNil)) aNil))))) aNil)))
    (sSeq (sIf (eTst (eOp vNe (eCl 3 (F 16) (aCons (eVar 2) (aCons (eVar 3) (aCons (eVar 4) aNil)))) (eTup (aCons (eTup (aCons (eTup (aCons (eVar 4) (aCons (eTup aNil) aNil))) (aCons (eTup (aCons (eVar 6) (aCons (eTup aNil) aNil))) aNil))) (aCons (eVar 8) aNil))))) (sRet (eC (.bool false))) sNx)
    (sSeq (sSet 8 (eCB bTuple (aCons (eLc [10] (.nm 10) (iRange (aCons (eVar 2) aNil)) kYes (eIf (eTst (eOp vIn (eVar 10) (eVar 3))) (eTup (aCons (eTup (aCons (eC (.int 0)) aNil)) (aCons (eTup (aCons (eC (.int 1)) aNil)) aNil))) (eTup (aCons (eTup (aCons (eC (.int 0)) (aCons (eC (.int 1)) aNil))) (aCons (eTup (aCons (eC (.int 0)) (aCons (eC (.int 1)) aNil))) aNil))))) aNil)))
    (sSeq (sIf (eTst (eOp vNe (eCl 3 (F 18) (aCons (eVar 2) (aCons (eVar 3) (aCons (eVar 4) aNil)))) (eTup (aCons (eTup (aCons (eTup (aCons (eVar 4) (aCons (eTup aNil) aNil))) (aCons (eTup (aCons (eTup (aCons (eC (.str "not")) (aCons (eVar 4) aNil))) (aCons (eTup aNil) aNil))) aNil))) (aCons (eVar 8) aNil))))) (sRet (eC (.bool false))) sNx)
    (sSeq (sIf (eTst (eOp vNe (eCl 3 (F 19) (aCons (eVar 2) (aCons (eVar 3) (aCons (eVar 5) aNil)))) (eCl 3 (F 18) (aCons (eVar 2) (aCons (eVar 3) (aCons (eTup (aCons (eC (.str "fact")) (aCons (eVar 5) aNil))) aNil)))))) (sRet (eC (.bool false))) sNx)
    (sSeq (sSet 8 (eCB bTuple (aCons (eLc [10] (.nm 10) (iRange (aCons (eVar 2) aNil)) kYes (eIf (eTst (eOp vIn (eVar 10) (eVar 3))) (eTup (aCons (eTup (aCons (eC (.int 1)) aNil)) (aCons (eTup (aCons (eC (.int 1)) aNil)) aNil))) (eTup (aCons (eTup (aCons (eC (.int 0)) aNil)) (aCons (eTup (aCons (eC (.int 1)) aNil)) aNil))))) aNil)))
    (sSeq (sIf (eTst (eOp vNe (eCl 3 (F 20) (aCons (eVar 2) (aCons (eVar 3) (aCons (eVar 4) aNil)))) (eTup (aCons (eTup (aCons (eTup (aCons (eTup (aCons (eC (.str "not")) (aCons (eVar 4) aNil))) (aCons (eTup aNil) aNil))) (aCons (eTup (aCons (eVar 4) (aCons (eTup aNil) aNil))) aNil))) (aCons (eVar 8) aNil))))) (sRet (eC (.bool false))) sNx)
    (sSeq (sSet 9 (eLst (aCons (eCl 2 (F 15) (aCons (eVar 2) (aCons (eVar 4) aNil))) (aCons (eCl 3 (F 16) (aCons (eVar 2) (aCons (eVar 3) (aCons (eVar 4) aNil)))) (aCons (eCl 3 (F 18) (aCons (eVar 2) (aCons (eVar 3) (aCons (eVar 4) aNil)))) aNil)))))
    (sSeq (sSet 9 (eOp vAdd (eVar 9) (eLst (aCons (eCl 3 (F 19) (aCons (eVar 2) (aCons (eVar 3) (aCons (eVar 5) aNil)))) (aCons (eCl 3 (F 20) (aCons (eVar 2) (aCons (eVar 3) (aCons (eVar 4) aNil)))) (aCons (eCl 3 (F 21) (aCons (eVar 2) (aCons (eVar 5) (aCons (eVar 4) aNil)))) aNil))))))
    (sRet (eOp vEq (eLc [11] (.nm 11) (iSeq (eVar 9)) (eTst (eOp vNotN (eCl 3 (F 9) (aCons (eVar 2) (aCons (eC (.int 4)) (aCons (eVar 11) aNil)))) (eC (.bool true)))) (eVar 11)) (eLst aNil)))))))))))))))))))
theorem sc_law : FnScope ["script", "town", "minds", "some", "saying", "fact", "always", "alone", "views", "every", "mind", "deed"] ["script"] (defScope (top 42)) := ⟨rfl, rfl, rfl, by decide +kernel, rfl, by decide +kernel, by decide +kernel⟩
theorem b_law (T : Tb cl P w K mg base k F) (B : Bl mg) (C : Cs ⟨K, w, cl⟩ mg) (cdv : Value) (A : Around) (outer : List Env) (s : Shared) (H : Hp) (E : XK) (hr : Room k (cxOf (L2.CX P w) P w K mg base ["script", "town", "minds", "some", "saying", "fact", "always", "alone", "views", "every", "mind", "deed"] "law" (defScope (top 42)) fa cdv A outer s H E).A) (tk : Takes (cxOf (L2.CX P w) P w K mg base ["script", "town", "minds", "some", "saying", "fact", "always", "alone", "views", "every", "mind", "deed"] "law" (defScope (top 42)) fa cdv A outer s H E) (fun cls d _ H' => E cls d H')) (hp : PassesOwn (model P w) (cxOf (L2.CX P w) P w K mg base ["script", "town", "minds", "some", "saying", "fact", "always", "alone", "views", "every", "mind", "deed"] "law" (defScope (top 42)) fa cdv A outer s H E).A (cxOf (L2.CX P w) P w K mg base ["script", "town", "minds", "some", "saying", "fact", "always", "alone", "views", "every", "mind", "deed"] "law" (defScope (top 42)) fa cdv A outer s H E).env (cxOf (L2.CX P w) P w K mg base ["script", "town", "minds", "some", "saying", "fact", "always", "alone", "views", "every", "mind", "deed"] "law" (defScope (top 42)) fa cdv A outer s H E).xe) :
    SSs cl (cxOf (L2.CX P w) P w K mg base ["script", "town", "minds", "some", "saying", "fact", "always", "alone", "views", "every", "mind", "deed"] "law" (defScope (top 42)) fa cdv A outer s H E) (fun cls d _ H' => E cls d H') (defBody (top 42)) (m_law F) := by
  have hu := units_of hr
  exact (ss_cons (ss_set 1 sc_law.nd (by rfl) (by first | exact Or.inl rfl | exact Or.inr rfl) (se_lstR sa_nil))
    (ss_cons (ss_set 2 sc_law.nd (by rfl) (by first | exact Or.inl rfl | exact Or.inr rfl) (se_op o_add se_int (se_cl T.f__law_draw hr tk (by rfl) (sa_cons (se_var 0) (sa_cons (se_var 1) (sa_cons se_int sa_nil))))))
    (ss_cons (ss_set 3 sc_law.nd (by rfl) (by first | exact Or.inl rfl | exact Or.inr rfl) (se_lc (own := [("mind", 10)]) rfl sc_law.nd (si_range (by rfl) B.range_ (sa_cons (se_var 2) sa_nil)) (blkOk_by (by kernel_rfl)) (fun _ _ _ _ _ => (sg_name 10 sc_law.nd (by rfl) (by first | exact Or.inl rfl | exact Or.inr rfl))) (fun _ _ _ _ _ => (sts_one (st_cmp (o_eq hu) (se_cl T.f__law_draw hr takes0 (by rfl) (sa_cons (se_var 0) (sa_cons (se_var 1) (sa_cons se_int sa_nil)))) se_int (by rfl)))) (fun _ _ _ _ _ => (se_var 10)) (by decide)))
    (ss_cons (ss_par 4 5 rfl sc_law.nd (by rfl) (by rfl) (by decide) rfl rfl (sa_cons (se_cl T.f__law_plain hr tk (by rfl) (sa_cons (se_var 0) (sa_cons (se_var 1) (sa_cons (se_var 2) (sa_cons se_int (sa_cons se_int sa_nil)))))) (sa_cons (se_cl T.f__law_draw hr tk (by rfl) (sa_cons (se_var 0) (sa_cons (se_var 1) (sa_cons se_int sa_nil)))) sa_nil)) (by rfl))
    (ss_cons (ss_par 6 7 rfl sc_law.nd (by rfl) (by rfl) (by decide) rfl rfl (sa_cons (se_tup (sa_cons se_str (sa_cons (se_tup (sa_cons se_str (sa_cons se_int sa_nil))) (sa_cons (se_tup (sa_cons se_str (sa_cons (se_tup (sa_cons se_str (sa_cons se_int sa_nil))) sa_nil))) sa_nil)))) (sa_cons (se_callTy c_tuple (by rfl) B.tuple_ bb_tuple (sa_cons (se_lc (own := [("mind", 10)]) rfl sc_law.nd (si_range (by rfl) B.range_ (sa_cons (se_var 2) sa_nil)) (blkOk_by (by kernel_rfl)) (fun _ _ _ _ _ => (sg_name 10 sc_law.nd (by rfl) (by first | exact Or.inl rfl | exact Or.inr rfl))) (fun _ _ _ _ _ => sts_nil) (fun _ _ _ _ _ => (se_tup (sa_cons (se_tup (sa_cons se_int sa_nil)) sa_nil))) (by decide)) sa_nil)) sa_nil)) (by rfl))
    (ss_cons (ss_if (st_cmp (o_ne hu) (se_cl T.f_aloud hr tk (by rfl) (sa_cons (se_var 2) (sa_cons (se_var 4) sa_nil))) (se_tup (sa_cons (se_tup (sa_cons (se_tup (sa_cons (se_var 4) (sa_cons (se_tup sa_nil) sa_nil))) sa_nil)) (sa_cons (se_var 7) sa_nil))) (by rfl)) (ss_one (ss_ret se_bl)) ss_nil)
    (ss_cons (ss_if (st_cmp (o_ne hu) (se_cl T.f_become hr tk (by rfl) (sa_cons (se_var 2) (sa_cons (se_var 5) (sa_cons (se_var 4) sa_nil)))) (se_tup (sa_cons (se_tup (sa_cons (se_tup (sa_cons (se_var 6) (sa_cons (se_tup (sa_cons (se_tup (sa_cons (se_var 5) (sa_cons (se_var 4) sa_nil))) sa_nil)) sa_nil))) sa_nil)) (sa_cons (se_var 7) sa_nil))) (by rfl)) (ss_one (ss_ret se_bl)) ss_nil)
    (ss_cons (ss_set 8 sc_law.nd (by rfl) (by first | exact Or.inl rfl | exact Or.inr rfl) (se_callTy c_tuple (by rfl) B.tuple_ bb_tuple (sa_cons (se_lc (own := [("mind", 10)]) rfl sc_law.nd (si_range (by rfl) B.range_ (sa_cons (se_var 2) sa_nil)) (blkOk_by (by kernel_rfl)) (fun _ _ _ _ _ => (sg_name 10 sc_law.nd (by rfl) (by first | exact Or.inl rfl | exact Or.inr rfl))) (fun _ _ _ _ _ => sts_nil) (fun _ _ _ _ _ => (se_if (st_cmp (o_in hu) (se_var 10) (se_var 3) (by rfl)) (se_tup (sa_cons (se_tup (sa_cons se_int sa_nil)) (sa_cons (se_tup (sa_cons se_int sa_nil)) sa_nil))) (se_tup (sa_cons (se_tup (sa_cons se_int sa_nil)) (sa_cons (se_tup (sa_cons se_int sa_nil)) sa_nil))))) (by decide)) sa_nil)))
    (ss_cons (ss_if (st_cmp (o_ne hu) (se_cl T.f_told_some hr tk (by rfl) (sa_cons (se_var 2) (sa_cons (se_var 3) (sa_cons (se_var 4) sa_nil)))) (se_tup (sa_cons (se_tup (sa_cons (se_tup (sa_cons (se_var 4) (sa_cons (se_tup sa_nil) sa_nil))) (sa_cons (se_tup (sa_cons (se_var 6) (sa_cons (se_tup sa_nil) sa_nil))) sa_nil))) (sa_cons (se_var 8) sa_nil))) (by rfl)) (ss_one (ss_ret se_bl)) ss_nil)
    (ss_cons (ss_set 8 sc_law.nd (by rfl) (by first | exact Or.inl rfl | exact Or.inr rfl) (se_callTy c_tuple (by rfl) B.tuple_ bb_tuple (sa_cons (se_lc (own := [("mind", 10)]) rfl sc_law.nd (si_range (by rfl) B.range_ (sa_cons (se_var 2) sa_nil)) (blkOk_by (by kernel_rfl)) (fun _ _ _ _ _ => (sg_name 10 sc_law.nd (by rfl) (by first | exact Or.inl rfl | exact Or.inr rfl))) (fun _ _ _ _ _ => sts_nil) (fun _ _ _ _ _ => (se_if (st_cmp (o_in hu) (se_var 10) (se_var 3) (by rfl)) (se_tup (sa_cons (se_tup (sa_cons se_int sa_nil)) (sa_cons (se_tup (sa_cons se_int sa_nil)) sa_nil))) (se_tup (sa_cons (se_tup (sa_cons se_int (sa_cons se_int sa_nil))) (sa_cons (se_tup (sa_cons se_int (sa_cons se_int sa_nil))) sa_nil))))) (by decide)) sa_nil)))
    (ss_cons (ss_if (st_cmp (o_ne hu) (se_cl T.f_whispered hr tk (by rfl) (sa_cons (se_var 2) (sa_cons (se_var 3) (sa_cons (se_var 4) sa_nil)))) (se_tup (sa_cons (se_tup (sa_cons (se_tup (sa_cons (se_var 4) (sa_cons (se_tup sa_nil) sa_nil))) (sa_cons (se_tup (sa_cons (se_tup (sa_cons se_str (sa_cons (se_var 4) sa_nil))) (sa_cons (se_tup sa_nil) sa_nil))) sa_nil))) (sa_cons (se_var 8) sa_nil))) (by rfl)) (ss_one (ss_ret se_bl)) ss_nil)
    (ss_cons (ss_if (st_cmp (o_ne hu) (se_cl T.f_looked hr tk (by rfl) (sa_cons (se_var 2) (sa_cons (se_var 3) (sa_cons (se_var 5) sa_nil)))) (se_cl T.f_whispered hr tk (by rfl) (sa_cons (se_var 2) (sa_cons (se_var 3) (sa_cons (se_tup (sa_cons se_str (sa_cons (se_var 5) sa_nil))) sa_nil)))) (by rfl)) (ss_one (ss_ret se_bl)) ss_nil)
    (ss_cons (ss_set 8 sc_law.nd (by rfl) (by first | exact Or.inl rfl | exact Or.inr rfl) (se_callTy c_tuple (by rfl) B.tuple_ bb_tuple (sa_cons (se_lc (own := [("mind", 10)]) rfl sc_law.nd (si_range (by rfl) B.range_ (sa_cons (se_var 2) sa_nil)) (blkOk_by (by kernel_rfl)) (fun _ _ _ _ _ => (sg_name 10 sc_law.nd (by rfl) (by first | exact Or.inl rfl | exact Or.inr rfl))) (fun _ _ _ _ _ => sts_nil) (fun _ _ _ _ _ => (se_if (st_cmp (o_in hu) (se_var 10) (se_var 3) (by rfl)) (se_tup (sa_cons (se_tup (sa_cons se_int sa_nil)) (sa_cons (se_tup (sa_cons se_int sa_nil)) sa_nil))) (se_tup (sa_cons (se_tup (sa_cons se_int sa_nil)) (sa_cons (se_tup (sa_cons se_int sa_nil)) sa_nil))))) (by decide)) sa_nil)))
    (ss_cons (ss_if (st_cmp (o_ne hu) (se_cl T.f_lied hr tk (by rfl) (sa_cons (se_var 2) (sa_cons (se_var 3) (sa_cons (se_var 4) sa_nil)))) (se_tup (sa_cons (se_tup (sa_cons (se_tup (sa_cons (se_tup (sa_cons se_str (sa_cons (se_var 4) sa_nil))) (sa_cons (se_tup sa_nil) sa_nil))) (sa_cons (se_tup (sa_cons (se_var 4) (sa_cons (se_tup sa_nil) sa_nil))) sa_nil))) (sa_cons (se_var 8) sa_nil))) (by rfl)) (ss_one (ss_ret se_bl)) ss_nil)
    (ss_cons (ss_set 9 sc_law.nd (by rfl) (by first | exact Or.inl rfl | exact Or.inr rfl) (se_lst (sa_cons (se_cl T.f_aloud hr tk (by rfl) (sa_cons (se_var 2) (sa_cons (se_var 4) sa_nil))) (sa_cons (se_cl T.f_told_some hr tk (by rfl) (sa_cons (se_var 2) (sa_cons (se_var 3) (sa_cons (se_var 4) sa_nil)))) (sa_cons (se_cl T.f_whispered hr tk (by rfl) (sa_cons (se_var 2) (sa_cons (se_var 3) (sa_cons (se_var 4) sa_nil)))) sa_nil)))))
    (ss_cons (ss_set 9 sc_law.nd (by rfl) (by first | exact Or.inl rfl | exact Or.inr rfl) (se_op o_add (se_var 9) (se_lst (sa_cons (se_cl T.f_looked hr tk (by rfl) (sa_cons (se_var 2) (sa_cons (se_var 3) (sa_cons (se_var 5) sa_nil)))) (sa_cons (se_cl T.f_lied hr tk (by rfl) (sa_cons (se_var 2) (sa_cons (se_var 3) (sa_cons (se_var 4) sa_nil)))) (sa_cons (se_cl T.f_become hr tk (by rfl) (sa_cons (se_var 2) (sa_cons (se_var 5) (sa_cons (se_var 4) sa_nil)))) sa_nil))))))
    (ss_one (ss_ret (se_cmp (o_eq hu) (se_lc (own := [("deed", 11)]) rfl sc_law.nd (si_seq (se_var 9)) (blkOk_by (by kernel_rfl)) (fun _ _ _ _ _ => (sg_name 11 sc_law.nd (by rfl) (by first | exact Or.inl rfl | exact Or.inr rfl))) (fun _ _ _ _ _ => (sts_one (st_cmp o_isnot (se_cl T.f_is_deed hr takes0 (by rfl) (sa_cons (se_var 2) (sa_cons se_int (sa_cons (se_var 11) sa_nil)))) se_bl (by rfl)))) (fun _ _ _ _ _ => (se_var 11)) (by decide)) (se_lst sa_nil) (by rfl))))))))))))))))))))
end
def bodies (F : Nat → FN) : Nat → FN
  | 0 => runF 3 3 (m_is_whole F)
  | 1 => runF 4 2 (m_are_numbers F)
  | 2 => runF 5 3 (m_are_views F)
  | 3 => runF 2 1 (m_sizes_of F)
  | 4 => runF 9 3 (m_size_of F)
  | 5 => runF 7 3 (m_size_after F)
  | 6 => runF 6 3 (m_size_of_event F)
  | 7 => runF 5 3 (m_size_of_deed F)
  | 8 => runF 4 3 (m_good_deed F)
  | 9 => runF 3 3 (m_is_deed F)
  | 10 => runF 1 1 (m_need_minds F)
  | 11 => runF 2 2 (m_need_some F)
  | 12 => runF 1 1 (m_need_fact F)
  | 13 => runF 4 3 (m_need_inner F)
  | 14 => runF 5 4 (m_for_each F)
  | 15 => runF 2 2 (m_aloud F)
  | 16 => runF 3 3 (m_told_some F)
  | 17 => runF 3 3 (m_whisper F)
  | 18 => runF 3 3 (m_whispered F)
  | 19 => runF 3 3 (m_looked F)
  | 20 => runF 3 3 (m_lied F)
  | 21 => runF 3 3 (m_become F)
  | 22 => runF 4 2 (m__law_cell_at F)
  | 23 => runF 4 3 (m__law_mixed F)
  | 24 => runF 3 3 (m__law_draw F)
  | 25 => runF 3 3 (m__law_pick F)
  | 26 => runF 7 5 (m__law_plain F)
  | 27 => runF 12 1 (m_law F)
  | _ => fun _ _ => .bad
def Fs : Nat → Nat → FN
  | 0 => fun _ _ _ => .bad
  | n + 1 => bodies (Fs n)
abbrev i_is_whole : Nat := 0
theorem e_is_whole (n : Nat) (a0 a1 a2 : Val) (st : Sto) : Fs (n + 1) i_is_whole [a0, a1, a2] st = (m_is_whole (Fs n) [some a0, some a1, some a2] st).fin0 st.length := rfl
abbrev i_are_numbers : Nat := 1
theorem e_are_numbers (n : Nat) (a0 a1 : Val) (st : Sto) : Fs (n + 1) i_are_numbers [a0, a1] st = (m_are_numbers (Fs n) [some a0, some a1, none, none] st).fin0 st.length := rfl
abbrev i_are_views : Nat := 2
theorem e_are_views (n : Nat) (a0 a1 a2 : Val) (st : Sto) : Fs (n + 1) i_are_views [a0, a1, a2] st = (m_are_views (Fs n) [some a0, some a1, some a2, none, none] st).fin0 st.length := rfl
abbrev i_sizes_of : Nat := 3
theorem e_sizes_of (n : Nat) (a0 : Val) (st : Sto) : Fs (n + 1) i_sizes_of [a0] st = (m_sizes_of (Fs n) [some a0, none] st).fin0 st.length := rfl
abbrev i_size_of : Nat := 4
theorem e_size_of (n : Nat) (a0 a1 a2 : Val) (st : Sto) : Fs (n + 1) i_size_of [a0, a1, a2] st = (m_size_of (Fs n) [some a0, some a1, some a2, none, none, none, none, none, none] st).fin0 st.length := rfl
abbrev i_size_after : Nat := 5
theorem e_size_after (n : Nat) (a0 a1 a2 : Val) (st : Sto) : Fs (n + 1) i_size_after [a0, a1, a2] st = (m_size_after (Fs n) [some a0, some a1, some a2, none, none, none, none] st).fin0 st.length := rfl
abbrev i_size_of_event : Nat := 6
theorem e_size_of_event (n : Nat) (a0 a1 a2 : Val) (st : Sto) : Fs (n + 1) i_size_of_event [a0, a1, a2] st = (m_size_of_event (Fs n) [some a0, some a1, some a2, none, none, none] st).fin0 st.length := rfl
abbrev i_size_of_deed : Nat := 7
theorem e_size_of_deed (n : Nat) (a0 a1 a2 : Val) (st : Sto) : Fs (n + 1) i_size_of_deed [a0, a1, a2] st = (m_size_of_deed (Fs n) [some a0, some a1, some a2, none, none] st).fin0 st.length := rfl
abbrev i_good_deed : Nat := 8
theorem e_good_deed (n : Nat) (a0 a1 a2 : Val) (st : Sto) : Fs (n + 1) i_good_deed [a0, a1, a2] st = (m_good_deed (Fs n) [some a0, some a1, some a2, none] st).fin0 st.length := rfl
abbrev i_is_deed : Nat := 9
theorem e_is_deed (n : Nat) (a0 a1 a2 : Val) (st : Sto) : Fs (n + 1) i_is_deed [a0, a1, a2] st = (m_is_deed (Fs n) [some a0, some a1, some a2] st).fin0 st.length := rfl
abbrev i_need_minds : Nat := 10
theorem e_need_minds (n : Nat) (a0 : Val) (st : Sto) : Fs (n + 1) i_need_minds [a0] st = (m_need_minds (Fs n) [some a0] st).fin0 st.length := rfl
abbrev i_need_some : Nat := 11
theorem e_need_some (n : Nat) (a0 a1 : Val) (st : Sto) : Fs (n + 1) i_need_some [a0, a1] st = (m_need_some (Fs n) [some a0, some a1] st).fin0 st.length := rfl
abbrev i_need_fact : Nat := 12
theorem e_need_fact (n : Nat) (a0 : Val) (st : Sto) : Fs (n + 1) i_need_fact [a0] st = (m_need_fact (Fs n) [some a0] st).fin0 st.length := rfl
abbrev i_need_inner : Nat := 13
theorem e_need_inner (n : Nat) (a0 a1 a2 : Val) (st : Sto) : Fs (n + 1) i_need_inner [a0, a1, a2] st = (m_need_inner (Fs n) [some a0, some a1, some a2, none] st).fin0 st.length := rfl
abbrev i_for_each : Nat := 14
theorem e_for_each (n : Nat) (a0 a1 a2 a3 : Val) (st : Sto) : Fs (n + 1) i_for_each [a0, a1, a2, a3] st = (m_for_each (Fs n) [some a0, some a1, some a2, some a3, none] st).fin0 st.length := rfl
abbrev i_aloud : Nat := 15
theorem e_aloud (n : Nat) (a0 a1 : Val) (st : Sto) : Fs (n + 1) i_aloud [a0, a1] st = (m_aloud (Fs n) [some a0, some a1] st).fin0 st.length := rfl
abbrev i_told_some : Nat := 16
theorem e_told_some (n : Nat) (a0 a1 a2 : Val) (st : Sto) : Fs (n + 1) i_told_some [a0, a1, a2] st = (m_told_some (Fs n) [some a0, some a1, some a2] st).fin0 st.length := rfl
abbrev i_whisper : Nat := 17
theorem e_whisper (n : Nat) (a0 a1 a2 : Val) (st : Sto) : Fs (n + 1) i_whisper [a0, a1, a2] st = (m_whisper (Fs n) [some a0, some a1, some a2] st).fin0 st.length := rfl
abbrev i_whispered : Nat := 18
theorem e_whispered (n : Nat) (a0 a1 a2 : Val) (st : Sto) : Fs (n + 1) i_whispered [a0, a1, a2] st = (m_whispered (Fs n) [some a0, some a1, some a2] st).fin0 st.length := rfl
abbrev i_looked : Nat := 19
theorem e_looked (n : Nat) (a0 a1 a2 : Val) (st : Sto) : Fs (n + 1) i_looked [a0, a1, a2] st = (m_looked (Fs n) [some a0, some a1, some a2] st).fin0 st.length := rfl
abbrev i_lied : Nat := 20
theorem e_lied (n : Nat) (a0 a1 a2 : Val) (st : Sto) : Fs (n + 1) i_lied [a0, a1, a2] st = (m_lied (Fs n) [some a0, some a1, some a2] st).fin0 st.length := rfl
abbrev i_become : Nat := 21
theorem e_become (n : Nat) (a0 a1 a2 : Val) (st : Sto) : Fs (n + 1) i_become [a0, a1, a2] st = (m_become (Fs n) [some a0, some a1, some a2] st).fin0 st.length := rfl
abbrev i__law_cell_at : Nat := 22
theorem e__law_cell_at (n : Nat) (a0 a1 : Val) (st : Sto) : Fs (n + 1) i__law_cell_at [a0, a1] st = (m__law_cell_at (Fs n) [some a0, some a1, none, none] st).fin0 st.length := rfl
abbrev i__law_mixed : Nat := 23
theorem e__law_mixed (n : Nat) (a0 a1 a2 : Val) (st : Sto) : Fs (n + 1) i__law_mixed [a0, a1, a2] st = (m__law_mixed (Fs n) [some a0, some a1, some a2, none] st).fin0 st.length := rfl
abbrev i__law_draw : Nat := 24
theorem e__law_draw (n : Nat) (a0 a1 a2 : Val) (st : Sto) : Fs (n + 1) i__law_draw [a0, a1, a2] st = (m__law_draw (Fs n) [some a0, some a1, some a2] st).fin0 st.length := rfl
abbrev i__law_pick : Nat := 25
theorem e__law_pick (n : Nat) (a0 a1 a2 : Val) (st : Sto) : Fs (n + 1) i__law_pick [a0, a1, a2] st = (m__law_pick (Fs n) [some a0, some a1, some a2] st).fin0 st.length := rfl
abbrev i__law_plain : Nat := 26
theorem e__law_plain (n : Nat) (a0 a1 a2 a3 a4 : Val) (st : Sto) : Fs (n + 1) i__law_plain [a0, a1, a2, a3, a4] st = (m__law_plain (Fs n) [some a0, some a1, some a2, some a3, some a4, none, none] st).fin0 st.length := rfl
abbrev i_law : Nat := 27
theorem e_law (n : Nat) (a0 : Val) (st : Sto) : Fs (n + 1) i_law [a0] st = (m_law (Fs n) [some a0, none, none, none, none, none, none, none, none, none, none, none] st).fin0 st.length := rfl
section
end
end Lw
end

section
set_option maxRecDepth 100000
set_option maxHeartbeats 4000000
namespace Lw
open PySem PySem.Spec L2 Mi
/-! ### numbers drawn -/
def isWhole (x : D) (lo hi : Int) : Bool := match x with
  | .int i => decide (lo ≤ i) && decide (i ≤ hi)
  | _ => false
def noDict : D → Prop
  | .dict _ => False
  | _ => True
theorem c_is_whole (n : Nat) (x : D) (lo hi : Int) (st : Sto) (h : Okk st) (hd : noDict x) : Fs (n + 1) i_is_whole [.d x, .d (.int lo), .d (.int hi)] st = .ok (.d (.bool (isWhole x lo hi))) st := by
  rw [e_is_whole]
  cases x with
  | int i => cases h1 : decide (lo ≤ i) <;> simp [m_is_whole, tyOf, pur2, dI, iLe, isWhole, h, h1]
  | dict _ => exact hd.elim
  | _ => simp [m_is_whole, tyOf, isWhole, h]
def cellV (ns : List Int) (k : Nat) : Int := if k < ns.length then ns.getD k 0 else if ns = [] then 0 else
  ns.getD (k % ns.length) 0 * 31 + k + ((List.range (min (k / ns.length) 60)).foldl (fun r _ => r / 1000003) (ns.getD (k % ns.length) 0)) * 101
theorem atI_get (ns : List Int) (k : Nat) (h : k < ns.length) : atI ns (k : Int) = some (ns.getD k 0) := by
  rw [atI_nat (v := ns.getD k 0)]
  simp [List.getD, h]
theorem forL_div (xs : List D) (a b : Option Val) (st : Sto) : ∀ (r : Int) (c : Option Val), ∃ c', forL (.nm 3) (sSet 2 (eOp (pur2 (dI iDiv)) (eVar 2) (eC (.int 1000003)))) xs [a, b, some (.d (.int r)), c] st = .ok (.nx [a, b, some (.d (.int (xs.foldl (fun r _ => r / 1000003) r))), c']) st := by
  induction xs with
  | nil => intro r c; exact ⟨c, rfl⟩
  | cons x xs ih =>
    intro r c
    obtain ⟨c', h⟩ := ih (r / 1000003) (some (.d x))
    refine ⟨c', ?_⟩
    simp [forL, Tg.put, pur2, dI, iDiv]
    exact h
theorem c_cell (n : Nat) (ns : List Int) (k : Nat) (st : Sto) (h : Okk st) (hn : ns.length ≤ 63) : ∃ v, Fs (n + 1) i__law_cell_at [.s ns, .d (.int (k : Nat))] st = .ok (.d (.int v)) st := by
  rw [e__law_cell_at]
  by_cases h1 : k < ns.length
  · have : ((k : Nat) : Int) < (ns.length : Int) := by omega
    refine ⟨ns.getD k 0, ?_⟩
    simp [m__law_cell_at, pur2, dI, iLt, bLen, lenOf, this, vIx, atI_get ns k h1, h]
  · have g1 : ¬ ((k : Nat) : Int) < (ns.length : Int) := by omega
    by_cases h2 : ns = []
    · subst h2
      have g2 : ¬ ((k : Nat) : Int) < 0 := by omega
      refine ⟨0, ?_⟩
      simp [m__law_cell_at, pur2, dI, iLt, bLen, lenOf, g2, vEq, datOf, fits, small, PyData.plain, PyData.plainAll, PyData.eqv, PyData.eqvAll, PyData.depth, PyData.depthAll, h]
    · have hl : 0 < ns.length := List.length_pos_iff.mpr h2
      have q1 : PyData.eqv (.list (ns.map PyData.int)) (.list []) = false := by
        cases ns with
        | nil => exact absurd rfl h2
        | cons a r => rfl
      have q2 : fits (.list (ns.map PyData.int)) (.list []) = true := by
        have : ∀ l : List Int, PyData.plainAll (l.map PyData.int) = true := fun l => by induction l with
          | nil => rfl
          | cons a r ih => simp [PyData.plainAll, PyData.plain, ih]
        simp [fits, PyData.plain, PyData.plainAll, this, PyData.depth, PyData.depthAll]
      have q3 : ((k : Int) % (ns.length : Int)) = ((k % ns.length : Nat) : Int) := by simp
      have q4 : k % ns.length < ns.length := Nat.mod_lt _ hl
      have q5 : (0 : Int) < (ns.length : Int) ∧ (ns.length : Int) < 1073741824 := by omega
      have q6 : (0 : Int) < (ns.length : Int) := by omega
      have q7 := atI_get ns (k % ns.length) q4
      obtain ⟨c', hc⟩ := forL_div ((List.range (min (k / ns.length) 60)).map fun j => PyData.int (0 + (j : Nat))) (some (.s ns)) (some (.d (.int k))) st (ns.getD (k % ns.length) 0) none
      have e1 : ((k : Int) / (ns.length : Int)) = ((k / ns.length : Nat) : Int) := by simp
      have e2 : (if (60 : Int) < ((k / ns.length : Nat) : Int) then (60 : Int) else ((k / ns.length : Nat) : Int)) = ((min (k / ns.length) 60 : Nat) : Int) := by split <;> omega
      have e3 : -(2 ^ 62) ≤ ((min (k / ns.length) 60 : Nat) : Int) ∧ ((min (k / ns.length) 60 : Nat) : Int) ≤ 1000000 := by
        have h60 : min (k / ns.length) 60 ≤ 60 := Nat.min_le_right _ _
        generalize min (k / ns.length) 60 = tt at *
        omega
      generalize ns.getD (k % ns.length) 0 = c0 at *
      generalize hr : ((List.range (min (k / ns.length) 60)).map fun j => PyData.int (0 + (j : Nat))).foldl (fun r _ => r / 1000003) c0 = r0 at hc
      refine ⟨c0 * 31 + k + r0 * 101, ?_⟩
      have z1 : (R.ok [.d (.int ((min (k / ns.length) 60 : Nat) : Int))] st).rangeI = .ok ((List.range (min (k / ns.length) 60)).map fun j => PyData.int (0 + (j : Nat))) st := by
        rw [rangeI_ok, if_pos e3, Int.toNat_natCast]
      have m1 : ∀ x : Int, iMul x 31 = some (.int (x * 31)) := fun x => if_pos (.inr (by decide))
      have m2 : ∀ x : Int, iMul x 101 = some (.int (x * 101)) := fun x => if_pos (.inr (by decide))
      simp only [m__law_cell_at, sSeq_eq, sIf_eq, eTst_eq, eOp_eq, eVar_eq, List.getElem?_cons_succ, List.getElem?_cons_zero, getv_ok, op1_ok, eCB_eq, aCons_eq, aNil_eq, cons1_ok, cons2_ok, cb_ok, bLen, lenOf, Option.map_some, R.of_some, op2_ok, pur2, dI, iLt, g1, decide_false, tst_ok, ifS_false, sNx_eq, andS_nx,
        vEq, datOf, eLst_eq, lstD_ok, toDs_nil, small, List.length_nil, Nat.zero_le, decide_true, if_true, q1, q2, sSet_eq, iMod, q6, vIx, q3, q7, setS_ok, List.set_cons_succ, List.set_cons_zero, sFor_eq, iRange_eq, iDiv, q5, and_self, eC_eq, bMin, e1, e2, z1, forS_ok, hc, sRet_eq, vMul, m1, m2, vAdd, retS_ok, fin0_rt, fin_d st h]
theorem c_mixed (n : Nat) (ns : List Int) (k : Nat) (b : Int) (st : Sto) (h : Okk st) (hn : ns.length ≤ 63) (hb : 0 < b) : ∃ v : Int, 0 ≤ v ∧ v < b ∧ Fs (n + 2) i__law_mixed [.s ns, .d (.int (k : Nat)), .d (.int b)] st = .ok (.d (.int v)) st := by
  rw [e__law_mixed]
  obtain ⟨c, hc⟩ := c_cell n ns k st h hn
  have m1 : ∀ x : Int, iMul x 1103515245 = some (.int (x * 1103515245)) := fun x => if_pos (.inr (by decide))
  have m2 : ∀ x : Int, iMul 7919 x = some (.int (7919 * x)) := fun x => if_pos (.inl (by decide))
  have p1 : ∀ x : Int, iPow (x % 2147483647) 5 = some (.int ((x % 2147483647) ^ 5)) := fun x => by
    have h1 : 0 ≤ x % 2147483647 := Int.emod_nonneg _ (by decide)
    have h2 : x % 2147483647 < 2147483647 := Int.emod_lt_of_pos _ (by decide)
    unfold iPow
    rw [if_pos ⟨by decide, by decide, by omega⟩]; rfl
  refine ⟨(((c * 1103515245 + 7919 * k + 12345) % 2147483647) ^ 5 % 2147483647 % 999983) % b, Int.emod_nonneg _ (by omega), Int.emod_lt_of_pos _ hb, ?_⟩
  simp [m__law_mixed, hc, vMul, m1, m2, vAdd, pur2, dI, iMod, p1, hb, h]
theorem c_draw (n : Nat) (ns : List Int) (b : Int) (xs : List D) (rest : Sto) (h : Okk (.lst xs :: rest)) (hn : ns.length ≤ 63) (hb : 0 < b) (hx : xs.length < 1000000) : ∃ v : Int, 0 ≤ v ∧ v < b ∧
    Fs (n + 3) i__law_draw [.s ns, .r 0, .d (.int b)] (.lst xs :: rest) = .ok (.d (.int v)) (.lst (xs ++ [.int 0]) :: rest) := by
  rw [e__law_draw]
  have h' : Okk (.lst (xs ++ [.int 0]) :: rest) := h
  obtain ⟨v, h1, h2, hv⟩ := c_mixed n ns (xs.length + 1) b (.lst (xs ++ [.int 0]) :: rest) h' hn hb
  refine ⟨v, h1, h2, ?_⟩
  have hv2 : Fs (n + 2) i__law_mixed [.s ns, .d (.int ((xs.length : Int) + 1)), .d (.int b)] (.lst (xs ++ [.int 0]) :: rest) = .ok (.d (.int v)) (.lst (xs ++ [.int 0]) :: rest) := by
    have := hv
    push_cast at this
    exact this
  have e := fin_d (.lst (xs ++ [.int 0]) :: rest) h' (.int v)
  simp [m__law_draw, hx, bLen, lenOf, sqOf, lsOf, hv2]
  simpa using e
end Lw
end

section
set_option maxRecDepth 100000
set_option maxHeartbeats 4000000
namespace Lw
open PySem PySem.Spec L2 Mi
/-! ### sayings without deeds -/
inductive Pl where
  | fact (i : Nat)
  | no (p : Pl)
  | holds (m : Nat) (p : Pl)
  | may (m : Nat) (p : Pl)
  | all (p : Pl)
  | com (p : Pl)
  | an (p q : Pl)
  | or (p q : Pl)
def Pl.d : Pl → D
  | .fact i => .tuple [.str "fact", .int i]
  | .no p => .tuple [.str "not", p.d]
  | .holds m p => .tuple [.str "holds", .int m, p.d]
  | .may m p => .tuple [.str "may", .int m, p.d]
  | .all p => .tuple [.str "all", p.d]
  | .com p => .tuple [.str "common", p.d]
  | .an p q => .tuple [.str "and", p.d, q.d]
  | .or p q => .tuple [.str "or", p.d, q.d]
def Pl.deep : Pl → Nat
  | .fact _ => 1
  | .no p => p.deep + 1
  | .holds _ p => p.deep + 1
  | .may _ p => p.deep + 1
  | .all p => p.deep + 1
  | .com p => p.deep + 1
  | .an p q => max p.deep q.deep + 1
  | .or p q => max p.deep q.deep + 1
def Pl.ok (minds facts : Nat) : Pl → Prop
  | .fact i => i < facts
  | .no p => p.ok minds facts
  | .holds m p => m < minds ∧ p.ok minds facts
  | .may m p => m < minds ∧ p.ok minds facts
  | .all p => p.ok minds facts
  | .com p => p.ok minds facts
  | .an p q => p.ok minds facts ∧ q.ok minds facts
  | .or p q => p.ok minds facts ∧ q.ok minds facts
theorem c_pick (n : Nat) (ns : List Int) (ds : List D) (xs : List D) (rest : Sto) (h : Okk (.lst xs :: rest)) (hn : ns.length ≤ 63) (hd : ds ≠ []) (hx : xs.length < 1000000) : ∃ v ∈ ds,
    Fs (n + 4) i__law_pick [.s ns, .r 0, .d (.list ds)] (.lst xs :: rest) = .ok (.d v) (.lst (xs ++ [.int 0]) :: rest) := by
  rw [e__law_pick]
  have hl : 0 < ds.length := List.length_pos_iff.mpr hd
  obtain ⟨v, h1, h2, hv⟩ := c_draw n ns (ds.length : Nat) xs rest h hn (by omega) hx
  have h' : Okk (.lst (xs ++ [.int 0]) :: rest) := h
  have hv2 : v.toNat < ds.length := by omega
  refine ⟨ds[v.toNat], List.getElem_mem _, ?_⟩
  have e := fin_d (.lst (xs ++ [.int 0]) :: rest) h' (ds[v.toNat])
  have a1 : atI ds v = some ds[v.toNat] := by
    have := atI_nat (xs := ds) (j := v.toNat) (v := ds[v.toNat]) (List.getElem?_eq_getElem hv2)
    rw [show ((v.toNat : Nat) : Int) = v by omega] at this
    exact this
  simp [m__law_pick, bLen, lenOf, sqOf, lsOf, hv, vIx, a1]
  simpa using e
/-- what _law_plain gives -/
theorem c_plain (ns : List Int) (minds facts : Nat) (hn : ns.length ≤ 63) (hm : 0 < minds) (hf : 0 < facts) : ∀ (dp : Nat) (n : Nat) (xs : List D) (rest : Sto), Okk (.lst xs :: rest) → xs.length + 4 * 3 ^ dp < 1000000 →
    ∃ (p : Pl) (xs' : List D), p.ok minds facts ∧ p.deep ≤ dp + 1 ∧ xs'.length ≤ xs.length + 4 * 3 ^ dp ∧
      Fs (n + dp + 5) i__law_plain [.s ns, .r 0, .d (.int (minds : Nat)), .d (.int (facts : Nat)), .d (.int ((dp + 1 : Nat) : Int))] (.lst xs :: rest) = .ok (.d p.d) (.lst xs' :: rest) := by
  intro dp
  induction dp with
  | zero =>
    intro n xs rest h hx
    simp at hx
    obtain ⟨w, w1, w2, hw⟩ := c_draw (n + 1) ns 9 xs rest h hn (by decide) (by omega)
    have h' : Okk (.lst (xs ++ [.int 0]) :: rest) := h
    obtain ⟨f, f1, f2, hf'⟩ := c_draw (n + 1) ns (facts : Nat) (xs ++ [.int 0]) rest h' hn (by omega) (by simp; omega)
    have h'' : Okk (.lst ((xs ++ [.int 0]) ++ [.int 0]) :: rest) := h
    refine ⟨.fact f.toNat, (xs ++ [.int 0]) ++ [.int 0], by simp [Pl.ok]; omega, by simp [Pl.deep], by simp, ?_⟩
    rw [show n + 0 + 5 = (n + 4) + 1 by omega, e__law_plain]
    have e := fin_d _ h'' (Pl.fact f.toNat).d
    have ef : ((f.toNat : Nat) : Int) = f := by omega
    simp only [Pl.d, ef] at e
    simp [m__law_plain, hw, hf', vEq, datOf, fits, PyData.plain, PyData.eqv, PyData.depth, small, Pl.d, ef]
    simpa using e
  | succ dp ih =>
    intro n xs rest h hx
    have pw : 4 * 3 ^ (dp + 1) = 12 * 3 ^ dp := by rw [Nat.pow_succ]; omega
    have pp : 1 ≤ 3 ^ dp := Nat.one_le_pow _ _ (by decide)
    rw [pw] at hx ⊢
    obtain ⟨w, w1, w2, hw⟩ := c_draw (n + dp + 2) ns 9 xs rest h hn (by decide) (by omega)
    have h1 : Okk (.lst (xs ++ [.int 0]) :: rest) := h
    have d1 : PyData.eqv (.int ((dp : Int) + 1 + 1)) (.int 1) = false := by
      have : ¬ ((dp : Int) + 1 + 1 = 1) := by omega
      simp [PyData.eqv, this]
    have ft : ∀ i j : Int, fits (.int i) (.int j) = true := fun i j => by simp [fits, PyData.plain, PyData.depth]
    have le : n + (dp + 1) + 5 = (n + dp + 5) + 1 := by omega
    by_cases hw0 : w = 0
    · subst hw0
      obtain ⟨f, f1, f2, hf'⟩ := c_draw (n + dp + 2) ns (facts : Nat) (xs ++ [.int 0]) rest h1 hn (by omega) (by simp; omega)
      have h2 : Okk (.lst ((xs ++ [.int 0]) ++ [.int 0]) :: rest) := h
      refine ⟨.fact f.toNat, (xs ++ [.int 0]) ++ [.int 0], by simp [Pl.ok]; omega, by simp [Pl.deep], by simp; omega, ?_⟩
      rw [le, e__law_plain]
      have e := fin_d _ h2 (Pl.fact f.toNat).d
      have ef : ((f.toNat : Nat) : Int) = f := by omega
      simp only [Pl.d, ef] at e
      have d0 : PyData.eqv (.int 0) (.int 0) = true := rfl
      simp [m__law_plain, hw, hf', vEq, datOf, ft, d1, d0, small, Pl.d, ef]
      simpa using e
    · have dw : PyData.eqv (.int w) (.int 0) = false := by simp [PyData.eqv, hw0]
      obtain ⟨p, xs2, p1, p2, p3, hp⟩ := ih n (xs ++ [.int 0]) rest h1 (by simp; omega)
      simp at p3
      have hp' : Fs (n + dp + 5) i__law_plain [.s ns, .r 0, .d (.int (minds : Nat)), .d (.int (facts : Nat)), .d (.int ((dp : Int) + 1))] (.lst (xs ++ [.int 0]) :: rest) = .ok (.d p.d) (.lst xs2 :: rest) := by
        have z := hp
        push_cast at z
        exact z
      have h2 : Okk (.lst xs2 :: rest) := h
      by_cases w3 : w < 3
      · refine ⟨.no p, xs2, p1, by simp [Pl.deep]; omega, by omega, ?_⟩
        rw [le, e__law_plain]
        have e := fin_d _ h2 (Pl.no p).d
        simp only [Pl.d] at e
        simp [m__law_plain, hw, vEq, datOf, ft, d1, dw, pur2, dI, iSub, hp', iLt, w3, small, Pl.d]
        simpa using e
      · by_cases w6 : w < 6
        · obtain ⟨v, hv, hpick⟩ := c_pick (n + dp + 1) ns [.str "holds", .str "holds", .str "may"] xs2 rest h2 hn (by simp) (by omega)
          have h3 : Okk (.lst (xs2 ++ [.int 0]) :: rest) := h
          obtain ⟨k, k1, k2, hk⟩ := c_draw (n + dp + 2) ns (minds : Nat) (xs2 ++ [.int 0]) rest h3 hn (by omega) (by simp; omega)
          have h4 : Okk (.lst ((xs2 ++ [.int 0]) ++ [.int 0]) :: rest) := h
          have ek : ((k.toNat : Nat) : Int) = k := by omega
          have main : Fs ((n + dp + 5) + 1) i__law_plain [.s ns, .r 0, .d (.int (minds : Nat)), .d (.int (facts : Nat)), .d (.int ((dp + 1 + 1 : Nat) : Int))] (.lst xs :: rest) = .ok (.d (.tuple [v, .int k, p.d])) (.lst ((xs2 ++ [.int 0]) ++ [.int 0]) :: rest) := by
            rw [e__law_plain]
            have e := fin_d _ h4 (.tuple [v, .int k, p.d])
            simp [m__law_plain, hw, vEq, datOf, ft, d1, dw, pur2, dI, iSub, hp', iLt, w3, w6, small, hpick, hk]
            simpa using e
          have hv' : v = .str "holds" ∨ v = .str "may" := by simp at hv; exact hv
          rcases hv' with rfl | rfl
          · exact ⟨.holds k.toNat p, (xs2 ++ [.int 0]) ++ [.int 0], ⟨by omega, p1⟩, by simp [Pl.deep]; omega, by simp; omega, by rw [le, main]; simp [Pl.d, ek]⟩
          · exact ⟨.may k.toNat p, (xs2 ++ [.int 0]) ++ [.int 0], ⟨by omega, p1⟩, by simp [Pl.deep]; omega, by simp; omega, by rw [le, main]; simp [Pl.d, ek]⟩
        · by_cases e6 : w = 6
          · subst e6
            obtain ⟨v, hv, hpick⟩ := c_pick (n + dp + 1) ns [.str "all", .str "common"] xs2 rest h2 hn (by simp) (by omega)
            have h3 : Okk (.lst (xs2 ++ [.int 0]) :: rest) := h
            have main : Fs ((n + dp + 5) + 1) i__law_plain [.s ns, .r 0, .d (.int (minds : Nat)), .d (.int (facts : Nat)), .d (.int ((dp + 1 + 1 : Nat) : Int))] (.lst xs :: rest) = .ok (.d (.tuple [v, p.d])) (.lst (xs2 ++ [.int 0]) :: rest) := by
              rw [e__law_plain]
              have e := fin_d _ h3 (.tuple [v, p.d])
              have d6 : PyData.eqv (.int 6) (.int 6) = true := rfl
              simp [m__law_plain, hw, vEq, datOf, ft, d1, dw, d6, pur2, dI, iSub, hp', iLt, small, hpick]
              simpa using e
            have hv' : v = .str "all" ∨ v = .str "common" := by simp at hv; exact hv
            rcases hv' with rfl | rfl
            · exact ⟨.all p, xs2 ++ [.int 0], p1, by simp [Pl.deep]; omega, by simp; omega, by rw [le, main]; simp [Pl.d]⟩
            · exact ⟨.com p, xs2 ++ [.int 0], p1, by simp [Pl.deep]; omega, by simp; omega, by rw [le, main]; simp [Pl.d]⟩
          · have dw6 : PyData.eqv (.int w) (.int 6) = false := by simp [PyData.eqv, e6]
            obtain ⟨v, hv, hpick⟩ := c_pick (n + dp + 1) ns [.str "and", .str "or"] xs2 rest h2 hn (by simp) (by omega)
            have h3 : Okk (.lst (xs2 ++ [.int 0]) :: rest) := h
            obtain ⟨q, xs3, q1, q2, q3, hq⟩ := ih n (xs2 ++ [.int 0]) rest h3 (by simp; omega)
            simp at q3
            have hq' : Fs (n + dp + 5) i__law_plain [.s ns, .r 0, .d (.int (minds : Nat)), .d (.int (facts : Nat)), .d (.int ((dp : Int) + 1))] (.lst (xs2 ++ [.int 0]) :: rest) = .ok (.d q.d) (.lst xs3 :: rest) := by
              have z := hq
              push_cast at z
              exact z
            have h4 : Okk (.lst xs3 :: rest) := h
            have main : Fs ((n + dp + 5) + 1) i__law_plain [.s ns, .r 0, .d (.int (minds : Nat)), .d (.int (facts : Nat)), .d (.int ((dp + 1 + 1 : Nat) : Int))] (.lst xs :: rest) = .ok (.d (.tuple [v, p.d, q.d])) (.lst xs3 :: rest) := by
              rw [e__law_plain]
              have e := fin_d _ h4 (.tuple [v, p.d, q.d])
              simp [m__law_plain, hw, vEq, datOf, ft, d1, dw, dw6, pur2, dI, iSub, hp', iLt, w3, w6, small, hpick, hq']
              simpa using e
            have hv' : v = .str "and" ∨ v = .str "or" := by simp at hv; exact hv
            rcases hv' with rfl | rfl
            · exact ⟨.an p q, xs3, ⟨p1, q1⟩, by simp [Pl.deep]; omega, by omega, by rw [le, main]; simp [Pl.d]⟩
            · exact ⟨.or p q, xs3, ⟨p1, q1⟩, by simp [Pl.deep]; omega, by omega, by rw [le, main]; simp [Pl.d]⟩
end Lw
end

section
set_option maxRecDepth 100000
set_option maxHeartbeats 4000000
namespace Lw
open PySem PySem.Spec L2 Mi
def szD (a b : Nat) : D := .tuple [.int a, .int b]
theorem c_sizes1 (n : Nat) (a b : Nat) (st : Sto) (h : Okk st) : Fs (n + 1) i_sizes_of [.d (.list [szD a b])] st = .ok (.d (szD a b)) st := by
  rw [e_sizes_of]
  simp [m_sizes_of, szD, small, compL, Tg.put, wipeE, vIx, sqOf, atI, ixN, toD, bMax, lsOf, intsOf, maxI, h]
theorem c_sizes2 (n : Nat) (a b c d : Nat) (st : Sto) (h : Okk st) : Fs (n + 1) i_sizes_of [.d (.list [szD a b, szD c d])] st = .ok (.d (szD (max a c) (max b d))) st := by
  rw [e_sizes_of]
  simp [m_sizes_of, szD, small, compL, Tg.put, wipeE, vIx, sqOf, atI, ixN, toD, bMax, lsOf, intsOf, maxI, h]
  constructor <;> split <;> omega
theorem depth_le (p : Pl) : p.d.depth ≤ p.deep ∧ p.d.plain = true := by
  induction p with
  | fact i => simp [Pl.d, Pl.deep, PyData.depth, PyData.depthAll, PyData.plain, PyData.plainAll]
  | no p ih => simp [Pl.d, Pl.deep, PyData.depth, PyData.depthAll, PyData.plain, PyData.plainAll, ih.2]; omega
  | holds m p ih => simp [Pl.d, Pl.deep, PyData.depth, PyData.depthAll, PyData.plain, PyData.plainAll, ih.2]; omega
  | may m p ih => simp [Pl.d, Pl.deep, PyData.depth, PyData.depthAll, PyData.plain, PyData.plainAll, ih.2]; omega
  | all p ih => simp [Pl.d, Pl.deep, PyData.depth, PyData.depthAll, PyData.plain, PyData.plainAll, ih.2]; omega
  | com p ih => simp [Pl.d, Pl.deep, PyData.depth, PyData.depthAll, PyData.plain, PyData.plainAll, ih.2]; omega
  | an p q ih ih2 => simp [Pl.d, Pl.deep, PyData.depth, PyData.depthAll, PyData.plain, PyData.plainAll, ih.2, ih2.2]; omega
  | or p q ih ih2 => simp [Pl.d, Pl.deep, PyData.depth, PyData.depthAll, PyData.plain, PyData.plainAll, ih.2, ih2.2]; omega
theorem fits0 (x : D) (xs : List D) (h : PyData.plainAll (x :: xs) = true) : fits (.tuple (x :: xs)) (.tuple []) = true := by
  have h2 : (PyData.tuple []).depth = 1 := rfl
  simp only [fits, plain_tup, h, plainAll_nil, Bool.and_self, Bool.true_and, decide_eq_true_eq, h2]
  omega
theorem c_size (minds facts : Nat) : ∀ (p : Pl) (n : Nat) (st : Sto), Okk st → p.ok minds facts → Fs (n + p.deep + 1) i_size_of [.d (.int minds), .d (.int facts), .d p.d] st = .ok (.d (szD p.deep 0)) st := by
  intro p
  induction p with
  | fact i =>
    intro n st h hp
    have hw := c_is_whole n (.int i) 0 ((facts : Int) - 1) st h trivial
    have hi : isWhole (.int i) 0 ((facts : Int) - 1) = true := by
      simp only [Pl.ok] at hp
      simp [isWhole]; omega
    rw [hi] at hw
    rw [show n + (Pl.fact i).deep + 1 = (n + 1) + 1 from rfl, e_size_of]
    simp [m_size_of, Pl.d, tyOf, vEq, datOf, fits0, small, vIx, sqOf, atI, ixN, bLen, lenOf, lsOf, pur2, dI, iSub, hw, szD, Pl.deep, h]
  | no p ih =>
    intro n st h hp
    have hpl := (depth_le p).2
    rw [show n + (Pl.no p).deep + 1 = (n + p.deep + 1) + 1 by simp [Pl.deep]; omega, e_size_of]
    have e1 := ih n st h hp
    have e2 := c_sizes1 (n + p.deep) p.deep 0 st h
    simp [m_size_of, Pl.d, tyOf, vEq, vNe, datOf, fits0, small, vIx, sqOf, atI, ixN, bLen, lenOf, lsOf, hpl, vIn, vNin, fitsIn, compL, Tg.put, wipeE, e1, toD, szD, pur2, dI, iSub]
    simp [szD] at e2
    simp [e2, setAll, vAdd, Tg.put, h, Pl.deep, small]
  | holds m p ih =>
    intro n st h hp
    have hpl := (depth_le p).2
    rw [show n + (Pl.holds m p).deep + 1 = (n + p.deep + 1) + 1 by simp [Pl.deep]; omega, e_size_of]
    have e1 := ih n st h hp.2
    have e2 := c_sizes1 (n + p.deep) p.deep 0 st h
    have hw := c_is_whole (n + p.deep) (.int m) 0 ((minds : Int) - 1) st h trivial
    have hi : isWhole (.int m) 0 ((minds : Int) - 1) = true := by
      have := hp.1
      simp [isWhole]; omega
    rw [hi] at hw
    simp [m_size_of, Pl.d, tyOf, vEq, vNe, datOf, fits0, small, vIx, sqOf, atI, ixN, bLen, lenOf, lsOf, hpl, vIn, vNin, fitsIn, compL, Tg.put, wipeE, e1, toD, szD, pur2, dI, iSub, hw, vSl, cut, HT.sIx]
    simp [szD] at e2
    simp [e2, setAll, vAdd, Tg.put, h, Pl.deep, small]
  | may m p ih =>
    intro n st h hp
    have hpl := (depth_le p).2
    rw [show n + (Pl.may m p).deep + 1 = (n + p.deep + 1) + 1 by simp [Pl.deep]; omega, e_size_of]
    have e1 := ih n st h hp.2
    have e2 := c_sizes1 (n + p.deep) p.deep 0 st h
    have hw := c_is_whole (n + p.deep) (.int m) 0 ((minds : Int) - 1) st h trivial
    have hi : isWhole (.int m) 0 ((minds : Int) - 1) = true := by
      have := hp.1
      simp [isWhole]; omega
    rw [hi] at hw
    simp [m_size_of, Pl.d, tyOf, vEq, vNe, datOf, fits0, small, vIx, sqOf, atI, ixN, bLen, lenOf, lsOf, hpl, vIn, vNin, fitsIn, compL, Tg.put, wipeE, e1, toD, szD, pur2, dI, iSub, hw, vSl, cut, HT.sIx]
    simp [szD] at e2
    simp [e2, setAll, vAdd, Tg.put, h, Pl.deep, small]
  | all p ih =>
    intro n st h hp
    have hpl := (depth_le p).2
    rw [show n + (Pl.all p).deep + 1 = (n + p.deep + 1) + 1 by simp [Pl.deep]; omega, e_size_of]
    have e1 := ih n st h hp
    have e2 := c_sizes1 (n + p.deep) p.deep 0 st h
    simp [m_size_of, Pl.d, tyOf, vEq, vNe, datOf, fits0, small, vIx, sqOf, atI, ixN, bLen, lenOf, lsOf, hpl, vIn, vNin, fitsIn, compL, Tg.put, wipeE, e1, toD, szD, pur2, dI, iSub]
    simp [szD] at e2
    simp [e2, setAll, vAdd, Tg.put, h, Pl.deep, small]
  | com p ih =>
    intro n st h hp
    have hpl := (depth_le p).2
    rw [show n + (Pl.com p).deep + 1 = (n + p.deep + 1) + 1 by simp [Pl.deep]; omega, e_size_of]
    have e1 := ih n st h hp
    have e2 := c_sizes1 (n + p.deep) p.deep 0 st h
    simp [m_size_of, Pl.d, tyOf, vEq, vNe, datOf, fits0, small, vIx, sqOf, atI, ixN, bLen, lenOf, lsOf, hpl, vIn, vNin, fitsIn, compL, Tg.put, wipeE, e1, toD, szD, pur2, dI, iSub]
    simp [szD] at e2
    simp [e2, setAll, vAdd, Tg.put, h, Pl.deep, small]
  | an p q ih ih2 =>
    intro n st h hp
    have hpl := (depth_le p).2
    have hql := (depth_le q).2
    rw [show n + (Pl.an p q).deep + 1 = (n + max p.deep q.deep + 1) + 1 by simp [Pl.deep]; omega, e_size_of]
    have e1 := ih (n + (max p.deep q.deep - p.deep)) st h hp.1
    have e3 := ih2 (n + (max p.deep q.deep - q.deep)) st h hp.2
    rw [show n + (max p.deep q.deep - p.deep) + p.deep + 1 = n + max p.deep q.deep + 1 by omega] at e1
    rw [show n + (max p.deep q.deep - q.deep) + q.deep + 1 = n + max p.deep q.deep + 1 by omega] at e3
    have e2 := c_sizes2 (n + max p.deep q.deep) p.deep 0 q.deep 0 st h
    simp [m_size_of, Pl.d, tyOf, vEq, vNe, datOf, fits0, small, vIx, sqOf, atI, ixN, bLen, lenOf, lsOf, hpl, hql, vIn, vNin, fitsIn, compL, Tg.put, wipeE, e1, e3, toD, szD, pur2, dI, iSub]
    simp [szD] at e2
    simp [e2, setAll, vAdd, Tg.put, h, Pl.deep, small]
  | or p q ih ih2 =>
    intro n st h hp
    have hpl := (depth_le p).2
    have hql := (depth_le q).2
    rw [show n + (Pl.or p q).deep + 1 = (n + max p.deep q.deep + 1) + 1 by simp [Pl.deep]; omega, e_size_of]
    have e1 := ih (n + (max p.deep q.deep - p.deep)) st h hp.1
    have e3 := ih2 (n + (max p.deep q.deep - q.deep)) st h hp.2
    rw [show n + (max p.deep q.deep - p.deep) + p.deep + 1 = n + max p.deep q.deep + 1 by omega] at e1
    rw [show n + (max p.deep q.deep - q.deep) + q.deep + 1 = n + max p.deep q.deep + 1 by omega] at e3
    have e2 := c_sizes2 (n + max p.deep q.deep) p.deep 0 q.deep 0 st h
    simp [m_size_of, Pl.d, tyOf, vEq, vNe, datOf, fits0, small, vIx, sqOf, atI, ixN, bLen, lenOf, lsOf, hpl, hql, vIn, vNin, fitsIn, compL, Tg.put, wipeE, e1, e3, toD, szD, pur2, dI, iSub]
    simp [szD] at e2
    simp [e2, setAll, vAdd, Tg.put, h, Pl.deep, small]
end Lw
end

section
set_option maxRecDepth 100000
set_option maxHeartbeats 4000000
namespace Lw
open PySem PySem.Spec L2 Mi
def inR (many i : Int) : Bool := isWhole (.int i) 0 (many - 1)
def lt2 (p : Int × Int) : Bool := decide (p.1 < p.2)
/-- numbers under many, rising -/
def numsOk (many : Int) (xs : List Int) : Bool := xs.all (inR many) && (xs.zip (xs.drop 1)).all lt2
def numsD (xs : List Int) : D := .tuple (xs.map .int)
theorem c_are_numbers (n : Nat) (xs : List Int) (many : Int) (st : Sto) (h : Okk st) (hl : xs.length ≤ 1000000) : Fs (n + 2) i_are_numbers [.d (numsD xs), .d (.int many)] st = .ok (.d (.bool (numsOk many xs))) st := by
  rw [e_are_numbers]
  have h1 := compL_mp (st := st) (tg := .nm 2) (tt := kYes) (ee := eCl 3 (Fs (n + 1) i_is_whole) (aCons (eVar 2) (aCons (eC (.int 0)) (aCons (eOp (pur2 (dI iSub)) (eVar 1) (eC (.int 1))) aNil)))) (env := [some (.d (numsD xs)), some (.d (.int many)), none, none]) PyData.int (fun i => .bool (inR many i)) xs (by
      intro i _
      have := c_is_whole n (.int i) 0 (many - 1) st h trivial
      refine ⟨_, rfl, rfl, ?_⟩
      simp [pur2, dI, iSub, this, inR])
  have h2 := compL_mp (st := st) (tg := .tp [2, 3]) (tt := kYes) (ee := eOp (pur2 (dI iLt)) (eVar 2) (eVar 3)) (env := [some (.d (numsD xs)), some (.d (.int many)), none, none]) (fun p => PyData.tuple [.int p.1, .int p.2]) (fun p => .bool (lt2 p)) (xs.zip (xs.drop 1)) (by
      intro p _
      refine ⟨_, rfl, rfl, ?_⟩
      simp [setAll, pur2, dI, iLt, lt2])
  have z2 := zipD_mp PyData.int PyData.int xs (xs.drop 1)
  rw [List.map_drop] at z2
  have a1 := bAll_mp (inR many) xs st
  have a2 := bAll_mp lt2 (xs.zip (xs.drop 1)) st
  have hs : small (xs.map PyData.int).length = true := small_le _ (by rw [List.length_map]; exact hl)
  have hs2 : small ((xs.zip (xs.drop 1)).map fun p => PyData.tuple [.int p.1, .int p.2]).length = true := small_le _ (by simp; omega)
  simp only [numsD] at h1 h2 ⊢
  unfold numsOk
  generalize xs.drop 1 = xs' at *
  generalize (xs.zip xs').map (fun p => PyData.tuple [.int p.1, .int p.2]) = zs at *
  generalize (xs.zip xs').map (fun p => PyData.bool (lt2 p)) = zs' at *
  generalize xs.map PyData.int = ys at *
  generalize xs.map (fun p => PyData.bool (inR many p)) = ys' at *
  generalize xs.all (inR many) = c1 at *
  generalize (xs.zip xs').all lt2 = c2 at *
  cases c1 <;> simp only [m_are_numbers, sSeq_eq, sIf_eq, kOr_eq, kNot_eq, eTst_eq, eIsi_eq, eVar_eq, List.getElem?_cons_zero, List.getElem?_cons_succ, getv_ok, isi_ok, tyOf, kit_tuple_tuple, tst_ok, knot_ok, Bool.not_true, kor_false, eCB_eq, aCons_eq, eLc_eq, iSeq_eq, seqI_tuple, lcE_ok, wipeE, List.set_cons_succ, List.set_cons_zero, h1, listD_ok, aNil_eq, cons1_ok, cons2_ok, cb_ok, a1, a2, R.of_some, ifS_true, ifS_false, Bool.not_false, sRet_eq, eC_eq, retS_ok, andS_rt, fin0_rt, fin_d st h, hs, hs2, if_true, sNx_eq, andS_nx, iZip_eq, eSl_eq, oSome_eq, slS1_ok, oS_ok, slS2_ok, oNone_eq, slS3_ok, vSl, cut_1, zipI_tup, z2, h2, Bool.true_and, Bool.false_and]
end Lw
end

section
set_option maxRecDepth 100000
set_option maxHeartbeats 4000000
namespace Lw
open PySem PySem.Spec L2 Mi
def viewsD (vs : List (List (List Int))) : D := .tuple (vs.map fun own => .tuple (own.map numsD))
theorem plainAll_mp {α : Type} (f : α → D) (xs : List α) (h : ∀ x ∈ xs, (f x).plain = true) : PyData.plainAll (xs.map f) = true := by
  induction xs with
  | nil => rfl
  | cons a l ih => rw [List.map_cons, plainAll_cons, h a List.mem_cons_self, ih fun x hx => h x (List.mem_cons_of_mem _ hx)]; rfl
theorem c_are_views (n : Nat) (vs : List (List (List Int))) (minds many : Nat) (st : Sto) (h : Okk st) (h0 : minds ≤ 1000) (h01 : many ≤ 1000) (h1 : vs.length = minds) (h2 : ∀ own ∈ vs, own.length = many) (h3 : ∀ own ∈ vs, ∀ xs ∈ own, numsOk many xs = true) (h4 : ∀ own ∈ vs, ∀ xs ∈ own, xs.length ≤ 1000000) : Fs (n + 3) i_are_views [.d (viewsD vs), .d (.int minds), .d (.int many)] st = .ok (.d (.bool true)) st := by
  rw [e_are_views]
  have g1 := compL_mp (st := st) (tg := .nm 3) (tt := kYes) (ee := eAnd (eIsi "tuple" (eVar 3)) (eOp vEq (eCB bLen (aCons (eVar 3) aNil)) (eVar 2))) (env := [some (.d (viewsD vs)), some (.d (.int minds)), some (.d (.int many)), none, none]) (fun own => .tuple (own.map numsD)) (fun own => .bool true) vs (by
      intro own ho
      have := h2 own ho
      refine ⟨_, rfl, rfl, ?_⟩
      simp [vEq, datOf, tyOf, bLen, lenOf, sqOf, this])
  have a1 : bAll [.d (.list (vs.map fun own => .bool true))] st = _ := bAll_mp (fun own : List (List Int) => true) vs st
  have a2 : bAll [.d (.list (vs.flatMap fun own => own.map fun xs => .bool true))] st = some (.d (.bool true), st) := by
    have : (vs.flatMap fun own => own.map fun xs => PyData.bool true) = (vs.flatten.map fun xs => PyData.bool true) := by simp [List.flatMap, List.map_flatten]
    rw [this, bAll_mp (fun xs : List Int => true) vs.flatten st]; simp
  have g2 := compL2_mp (st := st) (tg := .nm 3) (tt := kYes) (tg1 := .nm 4) (ei1 := iSeq (eVar 3)) (tt1 := kYes) (vs1 := [4]) (ee := eCl 2 (Fs (n + 2) 1) (aCons (eVar 4) (aCons (eVar 2) aNil))) (env := [some (.d (viewsD vs)), some (.d (.int minds)), some (.d (.int many)), none, none]) (fun own => .tuple (own.map numsD)) (fun own => own.map fun xs => .bool true) vs (by
      intro own ho
      refine ⟨_, own.map numsD, rfl, rfl, rfl, ?_⟩
      refine compL_mp numsD (fun xs => .bool true) own fun xs hx => ⟨_, rfl, rfl, ?_⟩
      have := c_are_numbers n xs many st h (h4 own ho xs hx)
      rw [h3 own ho xs hx] at this
      simp [wipeE, this])
  have s1 : small (vs.flatMap fun own => own.map fun xs => (PyData.bool true)).length = true := small_le _ (by
    have : ∀ l : List (List (List Int)), (∀ own ∈ l, own.length = many) → (l.flatMap fun own => own.map fun xs => (PyData.bool true)).length = l.length * many := by
      intro l hl
      induction l with
      | nil => simp
      | cons a l ih =>
        rw [List.flatMap_cons, List.length_append, ih fun own ho => hl own (List.mem_cons_of_mem _ ho), List.length_map, hl a List.mem_cons_self, List.length_cons, Nat.add_mul, Nat.one_mul, Nat.add_comm]
    rw [this vs h2, h1]
    calc minds * many ≤ 1000 * 1000 := Nat.mul_le_mul h0 h01
      _ = 1000000 := rfl)
  have s2 : small (vs.map fun own => PyData.tuple (own.map numsD)).length = true := small_le _ (by rw [List.length_map]; omega)
  simp only [viewsD] at *
  have e1 : vEq (.d (.int ((vs.map fun own => PyData.tuple (own.map numsD)).length : Nat))) (.d (.int minds)) st = some (.d (.bool true), st) := by
    simp [vEq, datOf, h1]
  have e2 : vNe (.d (.int ((vs.map fun own => PyData.tuple (own.map numsD)).length : Nat))) (.d (.int minds)) st = some (.d (.bool false), st) := by
    simp [vNe, datOf, h1]
  have t1 : (vs.all fun _ => true) = true := by simp
  rw [t1] at a1
  simp only [m_are_views, kit_NoneType_int, kit_bool_int, kit_int_int, kit_str_int, kit_list_int, kit_tuple_int, kit_dict_int, kit_NoneType_bool, kit_bool_bool, kit_int_bool, kit_str_bool, kit_list_bool, kit_tuple_bool, kit_dict_bool, kit_NoneType_tuple, kit_bool_tuple, kit_int_tuple, kit_str_tuple, kit_list_tuple, kit_tuple_tuple, kit_dict_tuple, kit_NoneType_str, kit_bool_str, kit_int_str, kit_str_str, kit_list_str, kit_tuple_str, kit_dict_str, kit_NoneType_list, kit_bool_list, kit_int_list, kit_str_list, kit_list_list, kit_tuple_list, kit_dict_list, andS_nx, andS_rt, andS_ex, andS_bad, sSeq_eq, sNx_eq, sNever_eq, sRetN_eq, retS_ok, retS_exc, retS_bad, sRet_eq, dropS_ok, dropS_exc, sExpr_eq, setS_ok, setS_exc, sSet_eq, ifS_true, ifS_false, sIf_eq, eC_eq, op2_ok, op1_ok, eOp_eq, tst_ok, eTst_eq, aNil_eq, cons2_ok, cons1_ok, aCons_eq, cb_ok, eCB_eq, cl_ok, eCl_eq, getv_ok, eVar_eq, kand_true, kand_false, kAnd_eq, kor_true, kor_false, kOr_eq, knot_ok, kNot_eq, kYes_eq, ifE_true, ifE_false, eIf_eq, tup_ok, eTup_eq, lstD_ok, eLst_eq, lstR_ok, eLstR_eq, toDs_nil, toDs_d, isi_ok, eIsi_eq, notE_ok, eNot_eq, andE_true, andE_false, eAnd_eq, orE_true, orE_false, eOr_eq, ch3_true, ch3_false, ch2_ok, ch1_ok, eChain_eq, parS_ok, sParN_eq, listD_ok, lcE_ok, eLc_eq, seqI_list, seqI_tuple, iSeq_eq, rangeI_ok, iRange_eq, forS_ok, sFor_eq, slS3_ok, slS2_ok, slS1_ok, eSl_eq, oNone_eq, oS_ok, oSome_eq, setTS_ok, sSetT_eq, starS_ok, sStar_eq, app2_ok, app1_ok, eAppend_eq, negE_ok, eNeg_eq, fin0_nx, fin0_rt, noX_ok, w_fact_after, w_fact_holds, w_fact_may, w_fact_and, w_fact_or, w_fact_not, w_fact_all, w_fact_common, w_after_fact, w_after_holds, w_after_may, w_after_and, w_after_or, w_after_not, w_after_all, w_after_common, w_holds_fact, w_holds_after, w_holds_may, w_holds_and, w_holds_or, w_holds_not, w_holds_all, w_holds_common, w_may_fact, w_may_after, w_may_holds, w_may_and, w_may_or, w_may_not, w_may_all, w_may_common, w_and_fact, w_and_after, w_and_holds, w_and_may, w_and_or, w_and_not, w_and_all, w_and_common, w_or_fact, w_or_after, w_or_holds, w_or_may, w_or_and, w_or_not, w_or_all, w_or_common, w_not_fact, w_not_after, w_not_holds, w_not_may, w_not_and, w_not_or, w_not_all, w_not_common, w_all_fact, w_all_after, w_all_holds, w_all_may, w_all_and, w_all_or, w_all_not, w_all_common, w_common_fact, w_common_after, w_common_holds, w_common_may, w_common_and, w_common_or, w_common_not, w_common_all, eqv_int, eqv_str, eqv_tn, eqv_t0, fits_int, fits_str, plain_int, plain_str, plain_tup, plain_lst, plainAll_nil, plainAll_cons, depth_int, depth_str, depth_non, depth_bool, plain_non, plain_bool, depth_tup0, zipI_tup, zipI_lst, iZip_eq, lc2D_ok, lc2E_ok, eLc2_eq, cut_1, List.getElem?_cons_zero, List.getElem?_cons_succ, List.set_cons_zero, List.set_cons_succ, List.length_cons, List.length_nil, if_true, if_false, reduceIte, Bool.not_true, Bool.not_false, decide_true, decide_false, Bool.true_and, Bool.false_and, Bool.and_true, Bool.and_false, R.of_some, Option.map_some, Option.map_none, wipeE, pur2, dI, iSub, iLt, iLe, iGt, iGe, vAdd, tyOf, vIx, sqOf, lsOf, bLen, lenOf, datOf, setAll, Tg.put, vSl, toD, Nat.reduceAdd, reduceCtorEq, Bool.false_eq_true, e2, s2, g1, a1, g2, s1, a2, fin_d st h]
end Lw
end

section
set_option maxRecDepth 100000
set_option maxHeartbeats 4000000
namespace Lw
open PySem PySem.Spec L2 Mi
theorem c_size' (minds facts : Nat) (p : Pl) (n : Nat) (st : Sto) (h : Okk st) (hp : p.ok minds facts) (hn : p.deep + 1 ≤ n) : Fs n i_size_of [.d (.int minds), .d (.int facts), .d p.d] st = .ok (.d (szD p.deep 0)) st := by
  have := c_size minds facts p (n - p.deep - 1) st h hp
  rwa [show n - p.deep - 1 + p.deep + 1 = n by omega] at this
theorem szD_ne (a b : Nat) : PyData.eqv (szD a b) .none = false := rfl
def ev0 (p : Pl) : D := .tuple [p.d, .tuple []]
def ev1 (p : Pl) (f : Nat) (q : Pl) : D := .tuple [p.d, .tuple [.tuple [.int f, q.d]]]
theorem c_event0 (minds facts : Nat) (p : Pl) (n : Nat) (st : Sto) (h : Okk st) (hp : p.ok minds facts) (hn : p.deep + 1 ≤ n) : Fs (n + 1) i_size_of_event [.d (.int minds), .d (.int facts), .d (ev0 p)] st = .ok (.d (szD p.deep 0)) st := by
  obtain ⟨k, rfl⟩ : ∃ k, n = k + 1 := ⟨n - 1, by omega⟩
  rw [e_size_of_event]
  have h1 := c_size' minds facts p (k + 1) st h hp (by omega)
  have h2 := c_sizes1 k p.deep 0 st h
  simp [m_size_of_event, ev0, tyOf, vNe, datOf, bLen, lenOf, sqOf, vIx, atI, ixN, small, compL, bAll, lsOf, boolsOf, vSl, zipD, wipeE, h1, h2, toD, vAdd, vIn, fitsIn, szD, h]
  simp [szD] at h2
  simp [h2, h]
theorem c_event1 (minds facts : Nat) (p q : Pl) (f : Nat) (hf : f < facts) (n : Nat) (st : Sto) (h : Okk st) (hp : p.ok minds facts) (hq : q.ok minds facts) (hn : p.deep + 1 ≤ n) (hn2 : q.deep + 1 ≤ n) : Fs (n + 1) i_size_of_event [.d (.int minds), .d (.int facts), .d (ev1 p f q)] st = .ok (.d (szD (max p.deep q.deep) 0)) st := by
  obtain ⟨k, rfl⟩ : ∃ k, n = k + 1 := ⟨n - 1, by omega⟩
  rw [e_size_of_event]
  have h1 := c_size' minds facts p (k + 1) st h hp (by omega)
  have h3 := c_size' minds facts q (k + 1) st h hq (by omega)
  have h2 := c_sizes2 k p.deep 0 q.deep 0 st h
  have hw := c_is_whole k (.int f) 0 ((facts : Int) - 1) st h trivial
  have hi : isWhole (.int f) 0 ((facts : Int) - 1) = true := by simp [isWhole]; omega
  rw [hi] at hw
  simp [m_size_of_event, ev1, tyOf, vNe, vEq, datOf, bLen, lenOf, sqOf, vIx, atI, ixN, small, compL, bAll, lsOf, boolsOf, vSl, zipD, wipeE, h1, h2, toD, vAdd, vIn, fitsIn, szD, h, hw, h3, pur2, dI, iSub, Tg.put]
  simp [szD] at h2
  simp [h2, h]
theorem c_deed_one (minds facts : Nat) (e : D) (a : Nat) (vs : List (List (List Int))) (n : Nat) (st : Sto) (h : Okk st) (h0 : minds ≤ 1000) (he : Fs (n + 3) i_size_of_event [.d (.int minds), .d (.int facts), .d e] st = .ok (.d (szD a 0)) st) (h1 : vs.length = minds) (h2 : ∀ own ∈ vs, own.length = 1) (h3 : ∀ own ∈ vs, ∀ xs ∈ own, numsOk (1 : Nat) xs = true) (h4 : ∀ own ∈ vs, ∀ xs ∈ own, xs.length ≤ 1000000) (ha : a + 1 ≤ 12) : Fs (n + 6) i_is_deed [.d (.int minds), .d (.int facts), .d (.tuple [.tuple [e], viewsD vs])] st = .ok (.d (.bool true)) st := by
  have hv := c_are_views n vs minds 1 st h h0 (by omega) h1 h2 h3 h4
  have hz := c_sizes1 (n + 2) a 0 st h
  simp [szD] at hz he hv
  have hd : Fs (n + 4) i_size_of_deed [.d (.int minds), .d (.int facts), .d (.tuple [.tuple [e], viewsD vs])] st = .ok (.d (szD a 0)) st := by
    rw [e_size_of_deed]
    simp [m_size_of_deed, tyOf, vNe, vEq, datOf, bLen, lenOf, sqOf, vIx, atI, ixN, small, compL, lsOf, wipeE, toD, vIn, fitsIn, szD, h, pur2, dI, iLe, Tg.put, hv, he, hz]
  rw [e_is_deed]
  simp [m_is_deed]
  rw [e_good_deed]
  simp [szD] at hd
  simp [m_good_deed, hd, vNotN, vIx, sqOf, atI, ixN, vAdd, pur2, dI, iLe, h, isNon, show (a : Int) + 1 ≤ 12 by omega]
theorem c_deed_two (minds facts : Nat) (e e2 : D) (a b : Nat) (vs : List (List (List Int))) (n : Nat) (st : Sto) (h : Okk st) (h0 : minds ≤ 1000) (he : Fs (n + 3) i_size_of_event [.d (.int minds), .d (.int facts), .d e] st = .ok (.d (szD a 0)) st) (he2 : Fs (n + 3) i_size_of_event [.d (.int minds), .d (.int facts), .d e2] st = .ok (.d (szD b 0)) st) (h1 : vs.length = minds) (h2 : ∀ own ∈ vs, own.length = 2) (h3 : ∀ own ∈ vs, ∀ xs ∈ own, numsOk (2 : Nat) xs = true) (h4 : ∀ own ∈ vs, ∀ xs ∈ own, xs.length ≤ 1000000) (ha : a + 1 ≤ 12) (hb : b + 1 ≤ 12) : Fs (n + 6) i_is_deed [.d (.int minds), .d (.int facts), .d (.tuple [.tuple [e, e2], viewsD vs])] st = .ok (.d (.bool true)) st := by
  have hv := c_are_views n vs minds 2 st h h0 (by omega) h1 h2 h3 h4
  have hz := c_sizes2 (n + 2) a 0 b 0 st h
  simp [szD] at hz he he2 hv
  have hd : Fs (n + 4) i_size_of_deed [.d (.int minds), .d (.int facts), .d (.tuple [.tuple [e, e2], viewsD vs])] st = .ok (.d (szD (max a b) 0)) st := by
    rw [e_size_of_deed]
    simp [m_size_of_deed, tyOf, vNe, vEq, datOf, bLen, lenOf, sqOf, vIx, atI, ixN, small, compL, lsOf, wipeE, toD, vIn, fitsIn, szD, h, pur2, dI, iLe, Tg.put, hv, he, he2, hz]
  rw [e_is_deed]
  simp [m_is_deed]
  rw [e_good_deed]
  simp [szD] at hd
  simp [m_good_deed, hd, vNotN, vIx, sqOf, atI, ixN, vAdd, pur2, dI, iLe, h, isNon, show ((max a b : Nat) : Int) + 1 ≤ 12 by omega]

/-! ### the usual deeds -/
theorem c_need_minds (n : Nat) (m : Nat) (h1 : 1 ≤ m) (h3 : m ≤ 3) (st : Sto) (h : Okk st) : Fs (n + 2) i_need_minds [.d (.int m)] st = .ok (.d .none) st := by
  rw [e_need_minds]
  have hw := c_is_whole n (.int m) 1 3 st h trivial
  have hi : isWhole (.int m) 1 3 = true := by simp [isWhole]; omega
  rw [hi] at hw
  simp [m_need_minds, hw, h]
theorem c_need_fact (n : Nat) (f : Nat) (h3 : f < 4) (st : Sto) (h : Okk st) : Fs (n + 2) i_need_fact [.d (.int f)] st = .ok (.d .none) st := by
  rw [e_need_fact]
  have hw := c_is_whole n (.int f) 0 3 st h trivial
  have hi : isWhole (.int f) 0 3 = true := by simp [isWhole]; omega
  rw [hi] at hw
  simp [m_need_fact, hw, h, pur2, dI, iSub]
theorem c_need_some (n : Nat) (m : Nat) (h1 : 1 ≤ m) (h3 : m ≤ 3) (xs : List Int) (hx : numsOk m xs = true) (hl : xs.length ≤ 1000) (st : Sto) (h : Okk st) : Fs (n + 3) i_need_some [.d (.int m), .d (.list (xs.map .int))] st = .ok (.d .none) st := by
  rw [e_need_some]
  have hw := c_need_minds n m h1 h3 st h
  have hv := c_are_numbers n xs m st h (by omega)
  rw [hx] at hv
  simp only [numsD] at hv
  simp [m_need_some, hw, h, tyOf, bTuple, lsOf, sqOf, hv]
theorem c_need_inner (n : Nat) (m : Nat) (p : Pl) (more : Nat) (hp : p.ok m 4) (hm : p.deep + more + 1 ≤ 12) (hn : p.deep + 1 ≤ n) (st : Sto) (h : Okk st) : Fs (n + 1) i_need_inner [.d (.int m), .d p.d, .d (.int more)] st = .ok (.d .none) st := by
  rw [e_need_inner]
  have hs := c_size' m 4 p n st h hp hn
  simp [szD] at hs
  have h12 : ¬ ((12 : Int) < (p.deep : Int) + more + 1) := by omega
  have h13 : decide ((12 : Int) < (p.deep : Int) + more + 1) = false := decide_eq_false h12
  simp [m_need_inner, hs, h, vIsN, isNon, vIx, sqOf, atI, ixN, vAdd, pur2, dI, iGt, h12]
def eachV (m : Nat) (xs : List Int) (a b : List (List Int)) : List (List (List Int)) := (List.range m).map fun i : Nat => if (i : Int) ∈ xs then a else b
theorem vIn_ints (i : Int) (xs : List Int) (st : Sto) : vIn (.d (.int i)) (.d (.list (xs.map .int))) st = some (.d (.bool (decide (i ∈ xs))), st) := by
  have h1 : fitsIn (xs.map PyData.int) (.int i) = true := by
    unfold fitsIn
    rw [plainAll_mp PyData.int xs fun x _ => rfl, depth_int, plain_int, Nat.min_zero]; rfl
  have h2 : ((xs.map PyData.int).any fun y => PyData.eqv y (.int i)) = decide (i ∈ xs) := by
    rw [List.any_map]
    induction xs with
    | nil => simp
    | cons a l ih =>
      rw [List.any_cons, ih ?_]
      · by_cases q : i = a
        · subst q; simp
        · have : ¬ a = i := fun h => q h.symm
          simp [q, this]
      · unfold fitsIn
        rw [plainAll_mp PyData.int l fun x _ => rfl, depth_int, plain_int, Nat.min_zero]; rfl
  simp only [vIn, datOf, sqOf, lsOf, h1, h2, if_true]
theorem rng (m : Nat) (h : m ≤ 1000) : (-(2 ^ 62) ≤ (m : Int) ∧ (m : Int) ≤ 1000000) := by omega
theorem c_for_each (n : Nat) (m : Nat) (hm : m ≤ 1000) (xs : List Int) (a b : List (List Int)) (st : Sto) (h : Okk st) : Fs (n + 1) i_for_each [.d (.int m), .d (.list (xs.map .int)), .d (.tuple (a.map numsD)), .d (.tuple (b.map numsD))] st = .ok (.d (viewsD (eachV m xs a b))) st := by
  rw [e_for_each]
  have h1 := compL_mp (st := st) (tg := .nm 4) (tt := kYes) (ee := eIf (eTst (eOp vIn (eVar 4) (eVar 1))) (eVar 2) (eVar 3)) (env := [some (.d (.int m)), some (.d (.list (xs.map .int))), some (.d (.tuple (a.map numsD))), some (.d (.tuple (b.map numsD))), none]) (fun k : Nat => PyData.int (0 + (k : Nat))) (fun i : Nat => .tuple ((if (i : Int) ∈ xs then a else b).map numsD)) (List.range m) (by
      intro i _
      refine ⟨_, rfl, rfl, ?_⟩
      by_cases q : (i : Int) ∈ xs <;> simp [vIn_ints, q])
  have hs : small ((List.range m).map fun k : Nat => PyData.int (0 + (k : Nat))).length = true := small_le _ (by simp; omega)
  have hr := rng m hm
  simp only [m_for_each, kit_NoneType_int, kit_bool_int, kit_int_int, kit_str_int, kit_list_int, kit_tuple_int, kit_dict_int, kit_NoneType_bool, kit_bool_bool, kit_int_bool, kit_str_bool, kit_list_bool, kit_tuple_bool, kit_dict_bool, kit_NoneType_tuple, kit_bool_tuple, kit_int_tuple, kit_str_tuple, kit_list_tuple, kit_tuple_tuple, kit_dict_tuple, kit_NoneType_str, kit_bool_str, kit_int_str, kit_str_str, kit_list_str, kit_tuple_str, kit_dict_str, kit_NoneType_list, kit_bool_list, kit_int_list, kit_str_list, kit_list_list, kit_tuple_list, kit_dict_list, andS_nx, andS_rt, andS_ex, andS_bad, sSeq_eq, sNx_eq, sNever_eq, sRetN_eq, retS_ok, retS_exc, retS_bad, sRet_eq, dropS_ok, dropS_exc, sExpr_eq, setS_ok, setS_exc, sSet_eq, ifS_true, ifS_false, sIf_eq, eC_eq, op2_ok, op1_ok, eOp_eq, tst_ok, eTst_eq, aNil_eq, cons2_ok, cons1_ok, aCons_eq, cb_ok, eCB_eq, cl_ok, eCl_eq, getv_ok, eVar_eq, kand_true, kand_false, kAnd_eq, kor_true, kor_false, kOr_eq, knot_ok, kNot_eq, kYes_eq, ifE_true, ifE_false, eIf_eq, tup_ok, eTup_eq, lstD_ok, eLst_eq, lstR_ok, eLstR_eq, toDs_nil, toDs_d, isi_ok, eIsi_eq, notE_ok, eNot_eq, andE_true, andE_false, eAnd_eq, orE_true, orE_false, eOr_eq, ch3_true, ch3_false, ch2_ok, ch1_ok, eChain_eq, parS_ok, sParN_eq, listD_ok, lcE_ok, eLc_eq, seqI_list, seqI_tuple, iSeq_eq, rangeI_ok, iRange_eq, forS_ok, sFor_eq, slS3_ok, slS2_ok, slS1_ok, eSl_eq, oNone_eq, oS_ok, oSome_eq, setTS_ok, sSetT_eq, starS_ok, sStar_eq, app2_ok, app1_ok, eAppend_eq, negE_ok, eNeg_eq, fin0_nx, fin0_rt, noX_ok, w_fact_after, w_fact_holds, w_fact_may, w_fact_and, w_fact_or, w_fact_not, w_fact_all, w_fact_common, w_after_fact, w_after_holds, w_after_may, w_after_and, w_after_or, w_after_not, w_after_all, w_after_common, w_holds_fact, w_holds_after, w_holds_may, w_holds_and, w_holds_or, w_holds_not, w_holds_all, w_holds_common, w_may_fact, w_may_after, w_may_holds, w_may_and, w_may_or, w_may_not, w_may_all, w_may_common, w_and_fact, w_and_after, w_and_holds, w_and_may, w_and_or, w_and_not, w_and_all, w_and_common, w_or_fact, w_or_after, w_or_holds, w_or_may, w_or_and, w_or_not, w_or_all, w_or_common, w_not_fact, w_not_after, w_not_holds, w_not_may, w_not_and, w_not_or, w_not_all, w_not_common, w_all_fact, w_all_after, w_all_holds, w_all_may, w_all_and, w_all_or, w_all_not, w_all_common, w_common_fact, w_common_after, w_common_holds, w_common_may, w_common_and, w_common_or, w_common_not, w_common_all, eqv_int, eqv_str, eqv_tn, eqv_t0, fits_int, fits_str, plain_int, plain_str, plain_tup, plain_lst, plainAll_nil, plainAll_cons, depth_int, depth_str, depth_non, depth_bool, plain_non, plain_bool, depth_tup0, zipI_tup, zipI_lst, iZip_eq, lc2D_ok, lc2E_ok, eLc2_eq, cut_1, List.getElem?_cons_zero, List.getElem?_cons_succ, List.set_cons_zero, List.set_cons_succ, List.length_cons, List.length_nil, if_true, if_false, reduceIte, Bool.not_true, Bool.not_false, decide_true, decide_false, Bool.true_and, Bool.false_and, Bool.and_true, Bool.and_false, R.of_some, Option.map_some, Option.map_none, wipeE, pur2, dI, iSub, iLt, iLe, iGt, iGe, vAdd, tyOf, vIx, sqOf, lsOf, bLen, lenOf, datOf, setAll, Tg.put, vSl, toD, Nat.reduceAdd, reduceCtorEq, Bool.false_eq_true, hr, and_self, Int.toNat_natCast, hs, h1, bTuple, viewsD, eachV, List.map_map, fin_d st h]
  rfl
theorem vNe_self (x : D) (h : x.plain = true) (hd : x.depth ≤ 150) (st : Sto) : vNe (.d x) (.d x) st = some (.d (.bool false), st) := by
  have h1 : fits x x = true := by simp [fits, h, hd]
  simp only [vNe, datOf, h1, if_true, PySem.SeqAt.eqv_refl_plain x h, Bool.not_true]
def always : Pl := .or (.fact 0) (.no (.fact 0))
def aloudD (m : Nat) (p : Pl) : D := .tuple [.tuple [ev0 p], viewsD (List.replicate m [[0]])]
def becomeD (m : Nat) (f : Nat) (p : Pl) : D := .tuple [.tuple [ev1 always f p], viewsD (List.replicate m [[0]])]
def toldD (m : Nat) (xs : List Int) (p : Pl) : D := .tuple [.tuple [ev0 p, ev0 always], viewsD (eachV m xs [[0], [1]] [[1], [1]])]
def whisD (m : Nat) (xs : List Int) (p : Pl) : D := .tuple [.tuple [ev0 p, ev0 (.no p)], viewsD (eachV m xs [[0], [1]] [[0, 1], [0, 1]])]
def liedD (m : Nat) (xs : List Int) (p : Pl) : D := .tuple [.tuple [ev0 (.no p), ev0 p], viewsD (eachV m xs [[1], [1]] [[0], [1]])]
theorem mul_alone (m : Nat) (h1 : 1 ≤ m) (h3 : m ≤ 3) (st : Sto) : vMul (.d (.tuple [.tuple [.tuple [.int 0]]])) (.d (.int m)) st = some (.d (viewsD (List.replicate m [[0]])), st) := by
  obtain rfl | rfl | rfl : m = 1 ∨ m = 2 ∨ m = 3 := by omega
  · rfl
  · rfl
  · rfl
theorem c_aloud (n : Nat) (m : Nat) (h1 : 1 ≤ m) (h3 : m ≤ 3) (p : Pl) (hp : p.ok m 4) (hd : p.deep + 2 ≤ 12) (st : Sto) (h : Okk st) : Fs (n + 16) i_aloud [.d (.int m), .d p.d] st = .ok (.d (aloudD m p)) st := by
  rw [e_aloud]
  have a1 := c_need_minds (n + 13) m h1 h3 st h
  have a2 : Fs (n + 15) i_need_inner [.d (.int m), .d p.d, .d (.int 0)] st = _ := c_need_inner (n + 14) m p 0 hp (by omega) (by omega) st h
  have a3 := mul_alone m h1 h3 st
  have s : small 0 = true ∧ small 1 = true ∧ small 2 = true := ⟨rfl, rfl, rfl⟩
  simp only [m_aloud, kit_NoneType_int, kit_bool_int, kit_int_int, kit_str_int, kit_list_int, kit_tuple_int, kit_dict_int, kit_NoneType_bool, kit_bool_bool, kit_int_bool, kit_str_bool, kit_list_bool, kit_tuple_bool, kit_dict_bool, kit_NoneType_tuple, kit_bool_tuple, kit_int_tuple, kit_str_tuple, kit_list_tuple, kit_tuple_tuple, kit_dict_tuple, kit_NoneType_str, kit_bool_str, kit_int_str, kit_str_str, kit_list_str, kit_tuple_str, kit_dict_str, kit_NoneType_list, kit_bool_list, kit_int_list, kit_str_list, kit_list_list, kit_tuple_list, kit_dict_list, andS_nx, andS_rt, andS_ex, andS_bad, sSeq_eq, sNx_eq, sNever_eq, sRetN_eq, retS_ok, retS_exc, retS_bad, sRet_eq, dropS_ok, dropS_exc, sExpr_eq, setS_ok, setS_exc, sSet_eq, ifS_true, ifS_false, sIf_eq, eC_eq, op2_ok, op1_ok, eOp_eq, tst_ok, eTst_eq, aNil_eq, cons2_ok, cons1_ok, aCons_eq, cb_ok, eCB_eq, cl_ok, eCl_eq, getv_ok, eVar_eq, kand_true, kand_false, kAnd_eq, kor_true, kor_false, kOr_eq, knot_ok, kNot_eq, kYes_eq, ifE_true, ifE_false, eIf_eq, tup_ok, eTup_eq, lstD_ok, eLst_eq, lstR_ok, eLstR_eq, toDs_nil, toDs_d, isi_ok, eIsi_eq, notE_ok, eNot_eq, andE_true, andE_false, eAnd_eq, orE_true, orE_false, eOr_eq, ch3_true, ch3_false, ch2_ok, ch1_ok, eChain_eq, parS_ok, sParN_eq, listD_ok, lcE_ok, eLc_eq, seqI_list, seqI_tuple, iSeq_eq, rangeI_ok, iRange_eq, forS_ok, sFor_eq, slS3_ok, slS2_ok, slS1_ok, eSl_eq, oNone_eq, oS_ok, oSome_eq, setTS_ok, sSetT_eq, starS_ok, sStar_eq, app2_ok, app1_ok, eAppend_eq, negE_ok, eNeg_eq, fin0_nx, fin0_rt, noX_ok, w_fact_after, w_fact_holds, w_fact_may, w_fact_and, w_fact_or, w_fact_not, w_fact_all, w_fact_common, w_after_fact, w_after_holds, w_after_may, w_after_and, w_after_or, w_after_not, w_after_all, w_after_common, w_holds_fact, w_holds_after, w_holds_may, w_holds_and, w_holds_or, w_holds_not, w_holds_all, w_holds_common, w_may_fact, w_may_after, w_may_holds, w_may_and, w_may_or, w_may_not, w_may_all, w_may_common, w_and_fact, w_and_after, w_and_holds, w_and_may, w_and_or, w_and_not, w_and_all, w_and_common, w_or_fact, w_or_after, w_or_holds, w_or_may, w_or_and, w_or_not, w_or_all, w_or_common, w_not_fact, w_not_after, w_not_holds, w_not_may, w_not_and, w_not_or, w_not_all, w_not_common, w_all_fact, w_all_after, w_all_holds, w_all_may, w_all_and, w_all_or, w_all_not, w_all_common, w_common_fact, w_common_after, w_common_holds, w_common_may, w_common_and, w_common_or, w_common_not, w_common_all, eqv_int, eqv_str, eqv_tn, eqv_t0, fits_int, fits_str, plain_int, plain_str, plain_tup, plain_lst, plainAll_nil, plainAll_cons, depth_int, depth_str, depth_non, depth_bool, plain_non, plain_bool, depth_tup0, zipI_tup, zipI_lst, iZip_eq, lc2D_ok, lc2E_ok, eLc2_eq, cut_1, List.getElem?_cons_zero, List.getElem?_cons_succ, List.set_cons_zero, List.set_cons_succ, List.length_cons, List.length_nil, if_true, if_false, reduceIte, Bool.not_true, Bool.not_false, decide_true, decide_false, Bool.true_and, Bool.false_and, Bool.and_true, Bool.and_false, R.of_some, Option.map_some, Option.map_none, wipeE, pur2, dI, iSub, iLt, iLe, iGt, iGe, vAdd, tyOf, vIx, sqOf, lsOf, bLen, lenOf, datOf, setAll, Tg.put, vSl, toD, Nat.reduceAdd, reduceCtorEq, Bool.false_eq_true, a1, a2, a3, toDs, s, aloudD, ev0, fin_d st h]
theorem c_become (n : Nat) (m : Nat) (h1 : 1 ≤ m) (h3 : m ≤ 3) (f : Nat) (hf : f < 4) (p : Pl) (hp : p.ok m 4) (hd : p.deep + 2 ≤ 12) (st : Sto) (h : Okk st) : Fs (n + 16) i_become [.d (.int m), .d (.int f), .d p.d] st = .ok (.d (becomeD m f p)) st := by
  rw [e_become]
  have a1 := c_need_minds (n + 13) m h1 h3 st h
  have a0 := c_need_fact (n + 13) f hf st h
  have a2 : Fs (n + 15) i_need_inner [.d (.int m), .d p.d, .d (.int 0)] st = _ := c_need_inner (n + 14) m p 0 hp (by omega) (by omega) st h
  have a3 := mul_alone m h1 h3 st
  have s : small 0 = true ∧ small 1 = true ∧ small 2 = true := ⟨rfl, rfl, rfl⟩
  simp only [m_become, kit_NoneType_int, kit_bool_int, kit_int_int, kit_str_int, kit_list_int, kit_tuple_int, kit_dict_int, kit_NoneType_bool, kit_bool_bool, kit_int_bool, kit_str_bool, kit_list_bool, kit_tuple_bool, kit_dict_bool, kit_NoneType_tuple, kit_bool_tuple, kit_int_tuple, kit_str_tuple, kit_list_tuple, kit_tuple_tuple, kit_dict_tuple, kit_NoneType_str, kit_bool_str, kit_int_str, kit_str_str, kit_list_str, kit_tuple_str, kit_dict_str, kit_NoneType_list, kit_bool_list, kit_int_list, kit_str_list, kit_list_list, kit_tuple_list, kit_dict_list, andS_nx, andS_rt, andS_ex, andS_bad, sSeq_eq, sNx_eq, sNever_eq, sRetN_eq, retS_ok, retS_exc, retS_bad, sRet_eq, dropS_ok, dropS_exc, sExpr_eq, setS_ok, setS_exc, sSet_eq, ifS_true, ifS_false, sIf_eq, eC_eq, op2_ok, op1_ok, eOp_eq, tst_ok, eTst_eq, aNil_eq, cons2_ok, cons1_ok, aCons_eq, cb_ok, eCB_eq, cl_ok, eCl_eq, getv_ok, eVar_eq, kand_true, kand_false, kAnd_eq, kor_true, kor_false, kOr_eq, knot_ok, kNot_eq, kYes_eq, ifE_true, ifE_false, eIf_eq, tup_ok, eTup_eq, lstD_ok, eLst_eq, lstR_ok, eLstR_eq, toDs_nil, toDs_d, isi_ok, eIsi_eq, notE_ok, eNot_eq, andE_true, andE_false, eAnd_eq, orE_true, orE_false, eOr_eq, ch3_true, ch3_false, ch2_ok, ch1_ok, eChain_eq, parS_ok, sParN_eq, listD_ok, lcE_ok, eLc_eq, seqI_list, seqI_tuple, iSeq_eq, rangeI_ok, iRange_eq, forS_ok, sFor_eq, slS3_ok, slS2_ok, slS1_ok, eSl_eq, oNone_eq, oS_ok, oSome_eq, setTS_ok, sSetT_eq, starS_ok, sStar_eq, app2_ok, app1_ok, eAppend_eq, negE_ok, eNeg_eq, fin0_nx, fin0_rt, noX_ok, w_fact_after, w_fact_holds, w_fact_may, w_fact_and, w_fact_or, w_fact_not, w_fact_all, w_fact_common, w_after_fact, w_after_holds, w_after_may, w_after_and, w_after_or, w_after_not, w_after_all, w_after_common, w_holds_fact, w_holds_after, w_holds_may, w_holds_and, w_holds_or, w_holds_not, w_holds_all, w_holds_common, w_may_fact, w_may_after, w_may_holds, w_may_and, w_may_or, w_may_not, w_may_all, w_may_common, w_and_fact, w_and_after, w_and_holds, w_and_may, w_and_or, w_and_not, w_and_all, w_and_common, w_or_fact, w_or_after, w_or_holds, w_or_may, w_or_and, w_or_not, w_or_all, w_or_common, w_not_fact, w_not_after, w_not_holds, w_not_may, w_not_and, w_not_or, w_not_all, w_not_common, w_all_fact, w_all_after, w_all_holds, w_all_may, w_all_and, w_all_or, w_all_not, w_all_common, w_common_fact, w_common_after, w_common_holds, w_common_may, w_common_and, w_common_or, w_common_not, w_common_all, eqv_int, eqv_str, eqv_tn, eqv_t0, fits_int, fits_str, plain_int, plain_str, plain_tup, plain_lst, plainAll_nil, plainAll_cons, depth_int, depth_str, depth_non, depth_bool, plain_non, plain_bool, depth_tup0, zipI_tup, zipI_lst, iZip_eq, lc2D_ok, lc2E_ok, eLc2_eq, cut_1, List.getElem?_cons_zero, List.getElem?_cons_succ, List.set_cons_zero, List.set_cons_succ, List.length_cons, List.length_nil, if_true, if_false, reduceIte, Bool.not_true, Bool.not_false, decide_true, decide_false, Bool.true_and, Bool.false_and, Bool.and_true, Bool.and_false, R.of_some, Option.map_some, Option.map_none, wipeE, pur2, dI, iSub, iLt, iLe, iGt, iGe, vAdd, tyOf, vIx, sqOf, lsOf, bLen, lenOf, datOf, setAll, Tg.put, vSl, toD, Nat.reduceAdd, reduceCtorEq, Bool.false_eq_true, a1, a2, a3, a0, toDs, s, becomeD, ev1, always, Pl.d, fin_d st h]
  rfl
theorem c_told (n : Nat) (m : Nat) (h1 : 1 ≤ m) (h3 : m ≤ 3) (xs : List Int) (hx : numsOk m xs = true) (hl : xs.length ≤ 1000) (p : Pl) (hp : p.ok m 4) (hd : p.deep + 2 ≤ 12) (st : Sto) (h : Okk st) : Fs (n + 16) i_told_some [.d (.int m), .d (.list (xs.map .int)), .d p.d] st = .ok (.d (toldD m xs p)) st := by
  rw [e_told_some]
  have a1 := c_need_some (n + 12) m h1 h3 xs hx hl st h
  have a2 : Fs (n + 15) i_need_inner [.d (.int m), .d p.d, .d (.int 0)] st = _ := c_need_inner (n + 14) m p 0 hp (by omega) (by omega) st h
  have a3 : Fs (n + 15) i_for_each [.d (.int m), .d (.list (xs.map .int)), .d (.tuple [.tuple [.int 0], .tuple [.int 1]]), .d (.tuple [.tuple [.int 1], .tuple [.int 1]])] st = _ := c_for_each (n + 14) m (by omega) xs [[0], [1]] [[1], [1]] st h
  have s : small 0 = true ∧ small 1 = true ∧ small 2 = true := ⟨rfl, rfl, rfl⟩
  simp only [m_told_some, kit_NoneType_int, kit_bool_int, kit_int_int, kit_str_int, kit_list_int, kit_tuple_int, kit_dict_int, kit_NoneType_bool, kit_bool_bool, kit_int_bool, kit_str_bool, kit_list_bool, kit_tuple_bool, kit_dict_bool, kit_NoneType_tuple, kit_bool_tuple, kit_int_tuple, kit_str_tuple, kit_list_tuple, kit_tuple_tuple, kit_dict_tuple, kit_NoneType_str, kit_bool_str, kit_int_str, kit_str_str, kit_list_str, kit_tuple_str, kit_dict_str, kit_NoneType_list, kit_bool_list, kit_int_list, kit_str_list, kit_list_list, kit_tuple_list, kit_dict_list, andS_nx, andS_rt, andS_ex, andS_bad, sSeq_eq, sNx_eq, sNever_eq, sRetN_eq, retS_ok, retS_exc, retS_bad, sRet_eq, dropS_ok, dropS_exc, sExpr_eq, setS_ok, setS_exc, sSet_eq, ifS_true, ifS_false, sIf_eq, eC_eq, op2_ok, op1_ok, eOp_eq, tst_ok, eTst_eq, aNil_eq, cons2_ok, cons1_ok, aCons_eq, cb_ok, eCB_eq, cl_ok, eCl_eq, getv_ok, eVar_eq, kand_true, kand_false, kAnd_eq, kor_true, kor_false, kOr_eq, knot_ok, kNot_eq, kYes_eq, ifE_true, ifE_false, eIf_eq, tup_ok, eTup_eq, lstD_ok, eLst_eq, lstR_ok, eLstR_eq, toDs_nil, toDs_d, isi_ok, eIsi_eq, notE_ok, eNot_eq, andE_true, andE_false, eAnd_eq, orE_true, orE_false, eOr_eq, ch3_true, ch3_false, ch2_ok, ch1_ok, eChain_eq, parS_ok, sParN_eq, listD_ok, lcE_ok, eLc_eq, seqI_list, seqI_tuple, iSeq_eq, rangeI_ok, iRange_eq, forS_ok, sFor_eq, slS3_ok, slS2_ok, slS1_ok, eSl_eq, oNone_eq, oS_ok, oSome_eq, setTS_ok, sSetT_eq, starS_ok, sStar_eq, app2_ok, app1_ok, eAppend_eq, negE_ok, eNeg_eq, fin0_nx, fin0_rt, noX_ok, w_fact_after, w_fact_holds, w_fact_may, w_fact_and, w_fact_or, w_fact_not, w_fact_all, w_fact_common, w_after_fact, w_after_holds, w_after_may, w_after_and, w_after_or, w_after_not, w_after_all, w_after_common, w_holds_fact, w_holds_after, w_holds_may, w_holds_and, w_holds_or, w_holds_not, w_holds_all, w_holds_common, w_may_fact, w_may_after, w_may_holds, w_may_and, w_may_or, w_may_not, w_may_all, w_may_common, w_and_fact, w_and_after, w_and_holds, w_and_may, w_and_or, w_and_not, w_and_all, w_and_common, w_or_fact, w_or_after, w_or_holds, w_or_may, w_or_and, w_or_not, w_or_all, w_or_common, w_not_fact, w_not_after, w_not_holds, w_not_may, w_not_and, w_not_or, w_not_all, w_not_common, w_all_fact, w_all_after, w_all_holds, w_all_may, w_all_and, w_all_or, w_all_not, w_all_common, w_common_fact, w_common_after, w_common_holds, w_common_may, w_common_and, w_common_or, w_common_not, w_common_all, eqv_int, eqv_str, eqv_tn, eqv_t0, fits_int, fits_str, plain_int, plain_str, plain_tup, plain_lst, plainAll_nil, plainAll_cons, depth_int, depth_str, depth_non, depth_bool, plain_non, plain_bool, depth_tup0, zipI_tup, zipI_lst, iZip_eq, lc2D_ok, lc2E_ok, eLc2_eq, cut_1, List.getElem?_cons_zero, List.getElem?_cons_succ, List.set_cons_zero, List.set_cons_succ, List.length_cons, List.length_nil, if_true, if_false, reduceIte, Bool.not_true, Bool.not_false, decide_true, decide_false, Bool.true_and, Bool.false_and, Bool.and_true, Bool.and_false, R.of_some, Option.map_some, Option.map_none, wipeE, pur2, dI, iSub, iLt, iLe, iGt, iGe, vAdd, tyOf, vIx, sqOf, lsOf, bLen, lenOf, datOf, setAll, Tg.put, vSl, toD, Nat.reduceAdd, reduceCtorEq, Bool.false_eq_true, a1, a2, a3, toDs, s, toldD, ev0, always, Pl.d, fin_d st h]
  rfl
theorem c_whisper (n : Nat) (m : Nat) (h1 : 1 ≤ m) (h3 : m ≤ 3) (xs : List Int) (p : Pl) (st : Sto) (h : Okk st) : Fs (n + 15) i_whisper [.d (.int m), .d (.list (xs.map .int)), .d p.d] st = .ok (.d (whisD m xs p)) st := by
  rw [e_whisper]
  have a3 : Fs (n + 14) i_for_each [.d (.int m), .d (.list (xs.map .int)), .d (.tuple [.tuple [.int 0], .tuple [.int 1]]), .d (.tuple [.tuple [.int 0, .int 1], .tuple [.int 0, .int 1]])] st = _ := c_for_each (n + 13) m (by omega) xs [[0], [1]] [[0, 1], [0, 1]] st h
  have s : small 0 = true ∧ small 1 = true ∧ small 2 = true := ⟨rfl, rfl, rfl⟩
  simp only [m_whisper, kit_NoneType_int, kit_bool_int, kit_int_int, kit_str_int, kit_list_int, kit_tuple_int, kit_dict_int, kit_NoneType_bool, kit_bool_bool, kit_int_bool, kit_str_bool, kit_list_bool, kit_tuple_bool, kit_dict_bool, kit_NoneType_tuple, kit_bool_tuple, kit_int_tuple, kit_str_tuple, kit_list_tuple, kit_tuple_tuple, kit_dict_tuple, kit_NoneType_str, kit_bool_str, kit_int_str, kit_str_str, kit_list_str, kit_tuple_str, kit_dict_str, kit_NoneType_list, kit_bool_list, kit_int_list, kit_str_list, kit_list_list, kit_tuple_list, kit_dict_list, andS_nx, andS_rt, andS_ex, andS_bad, sSeq_eq, sNx_eq, sNever_eq, sRetN_eq, retS_ok, retS_exc, retS_bad, sRet_eq, dropS_ok, dropS_exc, sExpr_eq, setS_ok, setS_exc, sSet_eq, ifS_true, ifS_false, sIf_eq, eC_eq, op2_ok, op1_ok, eOp_eq, tst_ok, eTst_eq, aNil_eq, cons2_ok, cons1_ok, aCons_eq, cb_ok, eCB_eq, cl_ok, eCl_eq, getv_ok, eVar_eq, kand_true, kand_false, kAnd_eq, kor_true, kor_false, kOr_eq, knot_ok, kNot_eq, kYes_eq, ifE_true, ifE_false, eIf_eq, tup_ok, eTup_eq, lstD_ok, eLst_eq, lstR_ok, eLstR_eq, toDs_nil, toDs_d, isi_ok, eIsi_eq, notE_ok, eNot_eq, andE_true, andE_false, eAnd_eq, orE_true, orE_false, eOr_eq, ch3_true, ch3_false, ch2_ok, ch1_ok, eChain_eq, parS_ok, sParN_eq, listD_ok, lcE_ok, eLc_eq, seqI_list, seqI_tuple, iSeq_eq, rangeI_ok, iRange_eq, forS_ok, sFor_eq, slS3_ok, slS2_ok, slS1_ok, eSl_eq, oNone_eq, oS_ok, oSome_eq, setTS_ok, sSetT_eq, starS_ok, sStar_eq, app2_ok, app1_ok, eAppend_eq, negE_ok, eNeg_eq, fin0_nx, fin0_rt, noX_ok, w_fact_after, w_fact_holds, w_fact_may, w_fact_and, w_fact_or, w_fact_not, w_fact_all, w_fact_common, w_after_fact, w_after_holds, w_after_may, w_after_and, w_after_or, w_after_not, w_after_all, w_after_common, w_holds_fact, w_holds_after, w_holds_may, w_holds_and, w_holds_or, w_holds_not, w_holds_all, w_holds_common, w_may_fact, w_may_after, w_may_holds, w_may_and, w_may_or, w_may_not, w_may_all, w_may_common, w_and_fact, w_and_after, w_and_holds, w_and_may, w_and_or, w_and_not, w_and_all, w_and_common, w_or_fact, w_or_after, w_or_holds, w_or_may, w_or_and, w_or_not, w_or_all, w_or_common, w_not_fact, w_not_after, w_not_holds, w_not_may, w_not_and, w_not_or, w_not_all, w_not_common, w_all_fact, w_all_after, w_all_holds, w_all_may, w_all_and, w_all_or, w_all_not, w_all_common, w_common_fact, w_common_after, w_common_holds, w_common_may, w_common_and, w_common_or, w_common_not, w_common_all, eqv_int, eqv_str, eqv_tn, eqv_t0, fits_int, fits_str, plain_int, plain_str, plain_tup, plain_lst, plainAll_nil, plainAll_cons, depth_int, depth_str, depth_non, depth_bool, plain_non, plain_bool, depth_tup0, zipI_tup, zipI_lst, iZip_eq, lc2D_ok, lc2E_ok, eLc2_eq, cut_1, List.getElem?_cons_zero, List.getElem?_cons_succ, List.set_cons_zero, List.set_cons_succ, List.length_cons, List.length_nil, if_true, if_false, reduceIte, Bool.not_true, Bool.not_false, decide_true, decide_false, Bool.true_and, Bool.false_and, Bool.and_true, Bool.and_false, R.of_some, Option.map_some, Option.map_none, wipeE, pur2, dI, iSub, iLt, iLe, iGt, iGe, vAdd, tyOf, vIx, sqOf, lsOf, bLen, lenOf, datOf, setAll, Tg.put, vSl, toD, Nat.reduceAdd, reduceCtorEq, Bool.false_eq_true, a3, toDs, s, whisD, ev0, Pl.d, fin_d st h]
theorem c_whispered (n : Nat) (m : Nat) (h1 : 1 ≤ m) (h3 : m ≤ 3) (xs : List Int) (hx : numsOk m xs = true) (hl : xs.length ≤ 1000) (p : Pl) (hp : p.ok m 4) (hd : p.deep + 2 ≤ 12) (st : Sto) (h : Okk st) : Fs (n + 16) i_whispered [.d (.int m), .d (.list (xs.map .int)), .d p.d] st = .ok (.d (whisD m xs p)) st := by
  rw [e_whispered]
  have a1 := c_need_some (n + 12) m h1 h3 xs hx hl st h
  have a2 : Fs (n + 15) i_need_inner [.d (.int m), .d p.d, .d (.int 1)] st = _ := c_need_inner (n + 14) m p 1 hp (by omega) (by omega) st h
  have a3 := c_whisper n m h1 h3 xs p st h
  simp only [m_whispered, kit_NoneType_int, kit_bool_int, kit_int_int, kit_str_int, kit_list_int, kit_tuple_int, kit_dict_int, kit_NoneType_bool, kit_bool_bool, kit_int_bool, kit_str_bool, kit_list_bool, kit_tuple_bool, kit_dict_bool, kit_NoneType_tuple, kit_bool_tuple, kit_int_tuple, kit_str_tuple, kit_list_tuple, kit_tuple_tuple, kit_dict_tuple, kit_NoneType_str, kit_bool_str, kit_int_str, kit_str_str, kit_list_str, kit_tuple_str, kit_dict_str, kit_NoneType_list, kit_bool_list, kit_int_list, kit_str_list, kit_list_list, kit_tuple_list, kit_dict_list, andS_nx, andS_rt, andS_ex, andS_bad, sSeq_eq, sNx_eq, sNever_eq, sRetN_eq, retS_ok, retS_exc, retS_bad, sRet_eq, dropS_ok, dropS_exc, sExpr_eq, setS_ok, setS_exc, sSet_eq, ifS_true, ifS_false, sIf_eq, eC_eq, op2_ok, op1_ok, eOp_eq, tst_ok, eTst_eq, aNil_eq, cons2_ok, cons1_ok, aCons_eq, cb_ok, eCB_eq, cl_ok, eCl_eq, getv_ok, eVar_eq, kand_true, kand_false, kAnd_eq, kor_true, kor_false, kOr_eq, knot_ok, kNot_eq, kYes_eq, ifE_true, ifE_false, eIf_eq, tup_ok, eTup_eq, lstD_ok, eLst_eq, lstR_ok, eLstR_eq, toDs_nil, toDs_d, isi_ok, eIsi_eq, notE_ok, eNot_eq, andE_true, andE_false, eAnd_eq, orE_true, orE_false, eOr_eq, ch3_true, ch3_false, ch2_ok, ch1_ok, eChain_eq, parS_ok, sParN_eq, listD_ok, lcE_ok, eLc_eq, seqI_list, seqI_tuple, iSeq_eq, rangeI_ok, iRange_eq, forS_ok, sFor_eq, slS3_ok, slS2_ok, slS1_ok, eSl_eq, oNone_eq, oS_ok, oSome_eq, setTS_ok, sSetT_eq, starS_ok, sStar_eq, app2_ok, app1_ok, eAppend_eq, negE_ok, eNeg_eq, fin0_nx, fin0_rt, noX_ok, w_fact_after, w_fact_holds, w_fact_may, w_fact_and, w_fact_or, w_fact_not, w_fact_all, w_fact_common, w_after_fact, w_after_holds, w_after_may, w_after_and, w_after_or, w_after_not, w_after_all, w_after_common, w_holds_fact, w_holds_after, w_holds_may, w_holds_and, w_holds_or, w_holds_not, w_holds_all, w_holds_common, w_may_fact, w_may_after, w_may_holds, w_may_and, w_may_or, w_may_not, w_may_all, w_may_common, w_and_fact, w_and_after, w_and_holds, w_and_may, w_and_or, w_and_not, w_and_all, w_and_common, w_or_fact, w_or_after, w_or_holds, w_or_may, w_or_and, w_or_not, w_or_all, w_or_common, w_not_fact, w_not_after, w_not_holds, w_not_may, w_not_and, w_not_or, w_not_all, w_not_common, w_all_fact, w_all_after, w_all_holds, w_all_may, w_all_and, w_all_or, w_all_not, w_all_common, w_common_fact, w_common_after, w_common_holds, w_common_may, w_common_and, w_common_or, w_common_not, w_common_all, eqv_int, eqv_str, eqv_tn, eqv_t0, fits_int, fits_str, plain_int, plain_str, plain_tup, plain_lst, plainAll_nil, plainAll_cons, depth_int, depth_str, depth_non, depth_bool, plain_non, plain_bool, depth_tup0, zipI_tup, zipI_lst, iZip_eq, lc2D_ok, lc2E_ok, eLc2_eq, cut_1, List.getElem?_cons_zero, List.getElem?_cons_succ, List.set_cons_zero, List.set_cons_succ, List.length_cons, List.length_nil, if_true, if_false, reduceIte, Bool.not_true, Bool.not_false, decide_true, decide_false, Bool.true_and, Bool.false_and, Bool.and_true, Bool.and_false, R.of_some, Option.map_some, Option.map_none, wipeE, pur2, dI, iSub, iLt, iLe, iGt, iGe, vAdd, tyOf, vIx, sqOf, lsOf, bLen, lenOf, datOf, setAll, Tg.put, vSl, toD, Nat.reduceAdd, reduceCtorEq, Bool.false_eq_true, a1, a2, a3, fin_d st h]
theorem c_looked (n : Nat) (m : Nat) (h1 : 1 ≤ m) (h3 : m ≤ 3) (xs : List Int) (hx : numsOk m xs = true) (hl : xs.length ≤ 1000) (f : Nat) (hf : f < 4) (st : Sto) (h : Okk st) : Fs (n + 16) i_looked [.d (.int m), .d (.list (xs.map .int)), .d (.int f)] st = .ok (.d (whisD m xs (.fact f))) st := by
  rw [e_looked]
  have a1 := c_need_some (n + 12) m h1 h3 xs hx hl st h
  have a2 := c_need_fact (n + 13) f hf st h
  have a3 := c_whisper n m h1 h3 xs (.fact f) st h
  simp only [Pl.d] at a3
  have s : small 0 = true ∧ small 1 = true ∧ small 2 = true := ⟨rfl, rfl, rfl⟩
  simp only [m_looked, kit_NoneType_int, kit_bool_int, kit_int_int, kit_str_int, kit_list_int, kit_tuple_int, kit_dict_int, kit_NoneType_bool, kit_bool_bool, kit_int_bool, kit_str_bool, kit_list_bool, kit_tuple_bool, kit_dict_bool, kit_NoneType_tuple, kit_bool_tuple, kit_int_tuple, kit_str_tuple, kit_list_tuple, kit_tuple_tuple, kit_dict_tuple, kit_NoneType_str, kit_bool_str, kit_int_str, kit_str_str, kit_list_str, kit_tuple_str, kit_dict_str, kit_NoneType_list, kit_bool_list, kit_int_list, kit_str_list, kit_list_list, kit_tuple_list, kit_dict_list, andS_nx, andS_rt, andS_ex, andS_bad, sSeq_eq, sNx_eq, sNever_eq, sRetN_eq, retS_ok, retS_exc, retS_bad, sRet_eq, dropS_ok, dropS_exc, sExpr_eq, setS_ok, setS_exc, sSet_eq, ifS_true, ifS_false, sIf_eq, eC_eq, op2_ok, op1_ok, eOp_eq, tst_ok, eTst_eq, aNil_eq, cons2_ok, cons1_ok, aCons_eq, cb_ok, eCB_eq, cl_ok, eCl_eq, getv_ok, eVar_eq, kand_true, kand_false, kAnd_eq, kor_true, kor_false, kOr_eq, knot_ok, kNot_eq, kYes_eq, ifE_true, ifE_false, eIf_eq, tup_ok, eTup_eq, lstD_ok, eLst_eq, lstR_ok, eLstR_eq, toDs_nil, toDs_d, isi_ok, eIsi_eq, notE_ok, eNot_eq, andE_true, andE_false, eAnd_eq, orE_true, orE_false, eOr_eq, ch3_true, ch3_false, ch2_ok, ch1_ok, eChain_eq, parS_ok, sParN_eq, listD_ok, lcE_ok, eLc_eq, seqI_list, seqI_tuple, iSeq_eq, rangeI_ok, iRange_eq, forS_ok, sFor_eq, slS3_ok, slS2_ok, slS1_ok, eSl_eq, oNone_eq, oS_ok, oSome_eq, setTS_ok, sSetT_eq, starS_ok, sStar_eq, app2_ok, app1_ok, eAppend_eq, negE_ok, eNeg_eq, fin0_nx, fin0_rt, noX_ok, w_fact_after, w_fact_holds, w_fact_may, w_fact_and, w_fact_or, w_fact_not, w_fact_all, w_fact_common, w_after_fact, w_after_holds, w_after_may, w_after_and, w_after_or, w_after_not, w_after_all, w_after_common, w_holds_fact, w_holds_after, w_holds_may, w_holds_and, w_holds_or, w_holds_not, w_holds_all, w_holds_common, w_may_fact, w_may_after, w_may_holds, w_may_and, w_may_or, w_may_not, w_may_all, w_may_common, w_and_fact, w_and_after, w_and_holds, w_and_may, w_and_or, w_and_not, w_and_all, w_and_common, w_or_fact, w_or_after, w_or_holds, w_or_may, w_or_and, w_or_not, w_or_all, w_or_common, w_not_fact, w_not_after, w_not_holds, w_not_may, w_not_and, w_not_or, w_not_all, w_not_common, w_all_fact, w_all_after, w_all_holds, w_all_may, w_all_and, w_all_or, w_all_not, w_all_common, w_common_fact, w_common_after, w_common_holds, w_common_may, w_common_and, w_common_or, w_common_not, w_common_all, eqv_int, eqv_str, eqv_tn, eqv_t0, fits_int, fits_str, plain_int, plain_str, plain_tup, plain_lst, plainAll_nil, plainAll_cons, depth_int, depth_str, depth_non, depth_bool, plain_non, plain_bool, depth_tup0, zipI_tup, zipI_lst, iZip_eq, lc2D_ok, lc2E_ok, eLc2_eq, cut_1, List.getElem?_cons_zero, List.getElem?_cons_succ, List.set_cons_zero, List.set_cons_succ, List.length_cons, List.length_nil, if_true, if_false, reduceIte, Bool.not_true, Bool.not_false, decide_true, decide_false, Bool.true_and, Bool.false_and, Bool.and_true, Bool.and_false, R.of_some, Option.map_some, Option.map_none, wipeE, pur2, dI, iSub, iLt, iLe, iGt, iGe, vAdd, tyOf, vIx, sqOf, lsOf, bLen, lenOf, datOf, setAll, Tg.put, vSl, toD, Nat.reduceAdd, reduceCtorEq, Bool.false_eq_true, a1, a2, a3, toDs, s, fin_d st h]
theorem c_lied (n : Nat) (m : Nat) (h1 : 1 ≤ m) (h3 : m ≤ 3) (xs : List Int) (hx : numsOk m xs = true) (hl : xs.length ≤ 1000) (p : Pl) (hp : p.ok m 4) (hd : p.deep + 2 ≤ 12) (st : Sto) (h : Okk st) : Fs (n + 16) i_lied [.d (.int m), .d (.list (xs.map .int)), .d p.d] st = .ok (.d (liedD m xs p)) st := by
  rw [e_lied]
  have a1 := c_need_some (n + 12) m h1 h3 xs hx hl st h
  have a2 : Fs (n + 15) i_need_inner [.d (.int m), .d p.d, .d (.int 1)] st = _ := c_need_inner (n + 14) m p 1 hp (by omega) (by omega) st h
  have a3 : Fs (n + 15) i_for_each [.d (.int m), .d (.list (xs.map .int)), .d (.tuple [.tuple [.int 1], .tuple [.int 1]]), .d (.tuple [.tuple [.int 0], .tuple [.int 1]])] st = _ := c_for_each (n + 14) m (by omega) xs [[1], [1]] [[0], [1]] st h
  have s : small 0 = true ∧ small 1 = true ∧ small 2 = true := ⟨rfl, rfl, rfl⟩
  simp only [m_lied, kit_NoneType_int, kit_bool_int, kit_int_int, kit_str_int, kit_list_int, kit_tuple_int, kit_dict_int, kit_NoneType_bool, kit_bool_bool, kit_int_bool, kit_str_bool, kit_list_bool, kit_tuple_bool, kit_dict_bool, kit_NoneType_tuple, kit_bool_tuple, kit_int_tuple, kit_str_tuple, kit_list_tuple, kit_tuple_tuple, kit_dict_tuple, kit_NoneType_str, kit_bool_str, kit_int_str, kit_str_str, kit_list_str, kit_tuple_str, kit_dict_str, kit_NoneType_list, kit_bool_list, kit_int_list, kit_str_list, kit_list_list, kit_tuple_list, kit_dict_list, andS_nx, andS_rt, andS_ex, andS_bad, sSeq_eq, sNx_eq, sNever_eq, sRetN_eq, retS_ok, retS_exc, retS_bad, sRet_eq, dropS_ok, dropS_exc, sExpr_eq, setS_ok, setS_exc, sSet_eq, ifS_true, ifS_false, sIf_eq, eC_eq, op2_ok, op1_ok, eOp_eq, tst_ok, eTst_eq, aNil_eq, cons2_ok, cons1_ok, aCons_eq, cb_ok, eCB_eq, cl_ok, eCl_eq, getv_ok, eVar_eq, kand_true, kand_false, kAnd_eq, kor_true, kor_false, kOr_eq, knot_ok, kNot_eq, kYes_eq, ifE_true, ifE_false, eIf_eq, tup_ok, eTup_eq, lstD_ok, eLst_eq, lstR_ok, eLstR_eq, toDs_nil, toDs_d, isi_ok, eIsi_eq, notE_ok, eNot_eq, andE_true, andE_false, eAnd_eq, orE_true, orE_false, eOr_eq, ch3_true, ch3_false, ch2_ok, ch1_ok, eChain_eq, parS_ok, sParN_eq, listD_ok, lcE_ok, eLc_eq, seqI_list, seqI_tuple, iSeq_eq, rangeI_ok, iRange_eq, forS_ok, sFor_eq, slS3_ok, slS2_ok, slS1_ok, eSl_eq, oNone_eq, oS_ok, oSome_eq, setTS_ok, sSetT_eq, starS_ok, sStar_eq, app2_ok, app1_ok, eAppend_eq, negE_ok, eNeg_eq, fin0_nx, fin0_rt, noX_ok, w_fact_after, w_fact_holds, w_fact_may, w_fact_and, w_fact_or, w_fact_not, w_fact_all, w_fact_common, w_after_fact, w_after_holds, w_after_may, w_after_and, w_after_or, w_after_not, w_after_all, w_after_common, w_holds_fact, w_holds_after, w_holds_may, w_holds_and, w_holds_or, w_holds_not, w_holds_all, w_holds_common, w_may_fact, w_may_after, w_may_holds, w_may_and, w_may_or, w_may_not, w_may_all, w_may_common, w_and_fact, w_and_after, w_and_holds, w_and_may, w_and_or, w_and_not, w_and_all, w_and_common, w_or_fact, w_or_after, w_or_holds, w_or_may, w_or_and, w_or_not, w_or_all, w_or_common, w_not_fact, w_not_after, w_not_holds, w_not_may, w_not_and, w_not_or, w_not_all, w_not_common, w_all_fact, w_all_after, w_all_holds, w_all_may, w_all_and, w_all_or, w_all_not, w_all_common, w_common_fact, w_common_after, w_common_holds, w_common_may, w_common_and, w_common_or, w_common_not, w_common_all, eqv_int, eqv_str, eqv_tn, eqv_t0, fits_int, fits_str, plain_int, plain_str, plain_tup, plain_lst, plainAll_nil, plainAll_cons, depth_int, depth_str, depth_non, depth_bool, plain_non, plain_bool, depth_tup0, zipI_tup, zipI_lst, iZip_eq, lc2D_ok, lc2E_ok, eLc2_eq, cut_1, List.getElem?_cons_zero, List.getElem?_cons_succ, List.set_cons_zero, List.set_cons_succ, List.length_cons, List.length_nil, if_true, if_false, reduceIte, Bool.not_true, Bool.not_false, decide_true, decide_false, Bool.true_and, Bool.false_and, Bool.and_true, Bool.and_false, R.of_some, Option.map_some, Option.map_none, wipeE, pur2, dI, iSub, iLt, iLe, iGt, iGe, vAdd, tyOf, vIx, sqOf, lsOf, bLen, lenOf, datOf, setAll, Tg.put, vSl, toD, Nat.reduceAdd, reduceCtorEq, Bool.false_eq_true, a1, a2, a3, toDs, s, liedD, ev0, Pl.d, fin_d st h]
end Lw
end

section
set_option maxRecDepth 100000
set_option maxHeartbeats 4000000
namespace Lw
open PySem PySem.Spec L2 Mi
theorem lt2_pw : ∀ xs : List Int, xs.Pairwise (· < ·) → (xs.zip (xs.drop 1)).all lt2 = true
  | [], _ => rfl
  | [a], _ => rfl
  | a :: b :: r, h => by
    have h1 := List.rel_of_pairwise_cons h (a' := b) List.mem_cons_self
    have ih := lt2_pw (b :: r) (List.Pairwise.of_cons h)
    simp only [List.drop_succ_cons, List.drop_zero, List.zip_cons_cons, List.all_cons, lt2, h1, decide_true, Bool.true_and] at ih ⊢
    cases r with
    | nil => rfl
    | cons c r => simpa using ih
theorem nums_sub (m : Nat) (l : List Nat) (h : l.Sublist (List.range m)) : numsOk m (l.map fun i : Nat => (i : Int)) = true := by
  unfold numsOk
  rw [Bool.and_eq_true]
  constructor
  · rw [List.all_map, List.all_eq_true]
    intro x hx
    have := List.mem_range.mp (h.mem hx)
    simp [inR, isWhole]
    omega
  · refine lt2_pw _ ?_
    rw [List.pairwise_map]
    have := (List.pairwise_lt_range (n := m)).sublist h
    exact this.imp fun q => by omega
theorem some_drawn (n : Nat) (ns : List Int) (hn : ns.length ≤ 63) (env : Ev) (h0 : env[0]? = some (some (.s ns))) (h1 : env[1]? = some (some (.r 0))) (h10 : 10 < env.length) : ∀ (l : List Nat) (xs : List D) (rest : Sto), Okk (.lst xs :: rest) → xs.length + l.length < 1000000 → ∃ (l' : List Nat) (xs' : List D), l'.Sublist l ∧ xs'.length = xs.length + l.length ∧
    compL (.nm 10) (eTst (eOp vEq (eCl 3 (Fs (n + 3) 24) (aCons (eVar 0) (aCons (eVar 1) (aCons (eC (.int 2)) aNil)))) (eC (.int 0)))) (eVar 10) env (l.map fun k : Nat => PyData.int (0 + (k : Nat))) (.lst xs :: rest) = .ok (l'.map fun k : Nat => PyData.int (k : Nat)) (.lst xs' :: rest) := by
  intro l
  induction l with
  | nil => intro xs rest h hx; exact ⟨[], xs, List.Sublist.refl _, rfl, rfl⟩
  | cons a l ih =>
    intro xs rest h hx
    rw [List.length_cons] at hx
    obtain ⟨v, v1, v2, hv⟩ := c_draw n ns 2 xs rest h hn (by decide) (by omega)
    obtain ⟨l', xs', s1, s2, s3⟩ := ih (xs ++ [.int 0]) rest h (by simp; omega)
    have e0 : (env.set 10 (some (.d (.int (0 + (a : Nat))))))[0]? = some (some (.s ns)) := by rw [List.getElem?_set_ne (by decide)]; exact h0
    have e1 : (env.set 10 (some (.d (.int (0 + (a : Nat))))))[1]? = some (some (.r 0)) := by rw [List.getElem?_set_ne (by decide)]; exact h1
    have e2 : (env.set 10 (some (.d (.int (0 + (a : Nat))))))[10]? = some (some (.d (.int (0 + (a : Nat))))) := List.getElem?_set_self h10
    have tt : eTst (eOp vEq (eCl 3 (Fs (n + 3) 24) (aCons (eVar 0) (aCons (eVar 1) (aCons (eC (.int 2)) aNil)))) (eC (.int 0))) (env.set 10 (some (.d (.int (0 + (a : Nat)))))) (.lst xs :: rest) = .ok (decide (v = 0)) (.lst (xs ++ [.int 0]) :: rest) := by
      simp only [kit_NoneType_int, kit_bool_int, kit_int_int, kit_str_int, kit_list_int, kit_tuple_int, kit_dict_int, kit_NoneType_bool, kit_bool_bool, kit_int_bool, kit_str_bool, kit_list_bool, kit_tuple_bool, kit_dict_bool, kit_NoneType_tuple, kit_bool_tuple, kit_int_tuple, kit_str_tuple, kit_list_tuple, kit_tuple_tuple, kit_dict_tuple, kit_NoneType_str, kit_bool_str, kit_int_str, kit_str_str, kit_list_str, kit_tuple_str, kit_dict_str, kit_NoneType_list, kit_bool_list, kit_int_list, kit_str_list, kit_list_list, kit_tuple_list, kit_dict_list, andS_nx, andS_rt, andS_ex, andS_bad, sSeq_eq, sNx_eq, sNever_eq, sRetN_eq, retS_ok, retS_exc, retS_bad, sRet_eq, dropS_ok, dropS_exc, sExpr_eq, setS_ok, setS_exc, sSet_eq, ifS_true, ifS_false, sIf_eq, eC_eq, op2_ok, op1_ok, eOp_eq, tst_ok, eTst_eq, aNil_eq, cons2_ok, cons1_ok, aCons_eq, cb_ok, eCB_eq, cl_ok, eCl_eq, getv_ok, eVar_eq, kand_true, kand_false, kAnd_eq, kor_true, kor_false, kOr_eq, knot_ok, kNot_eq, kYes_eq, ifE_true, ifE_false, eIf_eq, tup_ok, eTup_eq, lstD_ok, eLst_eq, lstR_ok, eLstR_eq, toDs_nil, toDs_d, isi_ok, eIsi_eq, notE_ok, eNot_eq, andE_true, andE_false, eAnd_eq, orE_true, orE_false, eOr_eq, ch3_true, ch3_false, ch2_ok, ch1_ok, eChain_eq, parS_ok, sParN_eq, listD_ok, lcE_ok, eLc_eq, seqI_list, seqI_tuple, iSeq_eq, rangeI_ok, iRange_eq, forS_ok, sFor_eq, slS3_ok, slS2_ok, slS1_ok, eSl_eq, oNone_eq, oS_ok, oSome_eq, setTS_ok, sSetT_eq, starS_ok, sStar_eq, app2_ok, app1_ok, eAppend_eq, negE_ok, eNeg_eq, fin0_nx, fin0_rt, noX_ok, w_fact_after, w_fact_holds, w_fact_may, w_fact_and, w_fact_or, w_fact_not, w_fact_all, w_fact_common, w_after_fact, w_after_holds, w_after_may, w_after_and, w_after_or, w_after_not, w_after_all, w_after_common, w_holds_fact, w_holds_after, w_holds_may, w_holds_and, w_holds_or, w_holds_not, w_holds_all, w_holds_common, w_may_fact, w_may_after, w_may_holds, w_may_and, w_may_or, w_may_not, w_may_all, w_may_common, w_and_fact, w_and_after, w_and_holds, w_and_may, w_and_or, w_and_not, w_and_all, w_and_common, w_or_fact, w_or_after, w_or_holds, w_or_may, w_or_and, w_or_not, w_or_all, w_or_common, w_not_fact, w_not_after, w_not_holds, w_not_may, w_not_and, w_not_or, w_not_all, w_not_common, w_all_fact, w_all_after, w_all_holds, w_all_may, w_all_and, w_all_or, w_all_not, w_all_common, w_common_fact, w_common_after, w_common_holds, w_common_may, w_common_and, w_common_or, w_common_not, w_common_all, eqv_int, eqv_str, eqv_tn, eqv_t0, fits_int, fits_str, plain_int, plain_str, plain_tup, plain_lst, plainAll_nil, plainAll_cons, depth_int, depth_str, depth_non, depth_bool, plain_non, plain_bool, depth_tup0, zipI_tup, zipI_lst, iZip_eq, lc2D_ok, lc2E_ok, eLc2_eq, cut_1, List.getElem?_cons_zero, List.getElem?_cons_succ, List.set_cons_zero, List.set_cons_succ, List.length_cons, List.length_nil, if_true, if_false, reduceIte, Bool.not_true, Bool.not_false, decide_true, decide_false, Bool.true_and, Bool.false_and, Bool.and_true, Bool.and_false, R.of_some, Option.map_some, Option.map_none, wipeE, pur2, dI, iSub, iLt, iLe, iGt, iGe, vAdd, tyOf, vIx, sqOf, lsOf, bLen, lenOf, datOf, setAll, Tg.put, vSl, toD, Nat.reduceAdd, reduceCtorEq, Bool.false_eq_true, e0, e1, hv, vEq]
      by_cases q : v = 0 <;> simp [q]
    by_cases q : v = 0
    · refine ⟨a :: l', xs', s1.cons₂ a, by rw [s2]; simp; omega, ?_⟩
      rw [decide_eq_true q] at tt
      simp only [List.map_cons, compL, Tg.put, tt, noX_ok, R.bind, eVar_eq, e2, getv_ok, toD, s3]
      simp
    · refine ⟨l', xs', s1.cons a, by rw [s2]; simp; omega, ?_⟩
      rw [decide_eq_false q] at tt
      simp only [List.map_cons, compL, Tg.put, tt, noX_ok, R.bind, s3]

theorem each_len (m : Nat) (xs : List Int) (a b : List (List Int)) : (eachV m xs a b).length = m := by simp [eachV]
theorem each_mem {m : Nat} {xs : List Int} {a b own : List (List Int)} (h : own ∈ eachV m xs a b) : own = a ∨ own = b := by
  obtain ⟨i, _, rfl⟩ := List.mem_map.mp h
  by_cases q : (i : Int) ∈ xs <;> simp [q]
theorem d_two (m : Nat) (h3 : m ≤ 3) (xs : List Int) (a b : List (List Int)) (ha : a.length = 2 ∧ (∀ x ∈ a, numsOk (2 : Nat) x = true ∧ x.length ≤ 2)) (hb : b.length = 2 ∧ (∀ x ∈ b, numsOk (2 : Nat) x = true ∧ x.length ≤ 2)) (p q : Pl) (hp : p.ok m 4) (hq : q.ok m 4) (hpd : p.deep + 1 ≤ 12) (hqd : q.deep + 1 ≤ 12) (n : Nat) (st : Sto) (h : Okk st) : Fs (n + 22) i_is_deed [.d (.int m), .d (.int 4), .d (.tuple [.tuple [ev0 p, ev0 q], viewsD (eachV m xs a b)])] st = .ok (.d (.bool true)) st :=
  c_deed_two m 4 (ev0 p) (ev0 q) p.deep q.deep (eachV m xs a b) (n + 16) st h (by omega) (c_event0 m 4 p (n + 18) st h hp (by omega)) (c_event0 m 4 q (n + 18) st h hq (by omega)) (each_len _ _ _ _)
    (fun own ho => by rcases each_mem ho with e | e; (· subst e; exact ha.1); (· subst e; exact hb.1)) (fun own ho x hx => by rcases each_mem ho with e | e; (· subst e; exact (ha.2 x hx).1); (· subst e; exact (hb.2 x hx).1)) (fun own ho x hx => by rcases each_mem ho with e | e; (· subst e; exact Nat.le_trans (ha.2 x hx).2 (by decide)); (· subst e; exact Nat.le_trans (hb.2 x hx).2 (by decide))) hpd hqd
theorem d_one (m : Nat) (h3 : m ≤ 3) (e : D) (a : Nat) (n : Nat) (st : Sto) (h : Okk st) (he : Fs (n + 19) i_size_of_event [.d (.int m), .d (.int 4), .d e] st = .ok (.d (szD a 0)) st) (ha : a + 1 ≤ 12) : Fs (n + 22) i_is_deed [.d (.int m), .d (.int 4), .d (.tuple [.tuple [e], viewsD (List.replicate m [[0]])])] st = .ok (.d (.bool true)) st :=
  c_deed_one m 4 e a (List.replicate m [[0]]) (n + 16) st h (by omega) he (by simp) (fun own ho => by rw [(List.mem_replicate.mp ho).2]; rfl) (fun own ho x hx => by rw [(List.mem_replicate.mp ho).2] at hx; simp at hx; subst hx; rfl) (fun own ho x hx => by rw [(List.mem_replicate.mp ho).2] at hx; simp at hx; subst hx; decide) ha
/-! ### the data are plain and not deep -/
theorem depthAll_mp {α : Type} (f : α → D) (k : Nat) : ∀ (xs : List α), (∀ x ∈ xs, (f x).depth ≤ k) → PyData.depthAll (xs.map f) ≤ k
  | [], _ => Nat.zero_le _
  | a :: l, h => by
    have h1 := h a List.mem_cons_self
    have h2 := depthAll_mp f k l fun x hx => h x (List.mem_cons_of_mem _ hx)
    show max (PyData.depth (f a)) (PyData.depthAll (l.map f)) ≤ k
    omega
theorem nums_plain (xs : List Int) : (numsD xs).plain = true ∧ (numsD xs).depth ≤ 1 := by
  refine ⟨plainAll_mp _ _ fun _ _ => rfl, ?_⟩
  have := depthAll_mp PyData.int 0 xs fun _ _ => Nat.le_refl 0
  show PyData.depthAll (xs.map PyData.int) + 1 ≤ 1
  omega
theorem views_plain (vs : List (List (List Int))) : (viewsD vs).plain = true ∧ (viewsD vs).depth ≤ 3 := by
  refine ⟨plainAll_mp _ _ fun own _ => plainAll_mp _ _ fun x _ => (nums_plain x).1, ?_⟩
  have := depthAll_mp (fun own : List (List Int) => PyData.tuple (own.map numsD)) 2 vs fun own _ => by
    have := depthAll_mp numsD 1 own fun x _ => (nums_plain x).2
    show PyData.depthAll (own.map numsD) + 1 ≤ 2
    omega
  show PyData.depthAll (vs.map fun own : List (List Int) => PyData.tuple (own.map numsD)) + 1 ≤ 3
  omega
theorem ev0_plain (p : Pl) (h : p.deep ≤ 12) : (ev0 p).plain = true ∧ (ev0 p).depth ≤ 13 := by
  have := depth_le p
  simp [ev0, this.2, PyData.depth, PyData.depthAll]
  omega
theorem ev1_plain (p q : Pl) (f : Nat) (h : p.deep ≤ 12) (hq : q.deep ≤ 12) : (ev1 p f q).plain = true ∧ (ev1 p f q).depth ≤ 15 := by
  have := depth_le p
  have := depth_le q
  simp [ev1, this.2, (depth_le p).2, PyData.depth, PyData.depthAll]
  omega
theorem deed_plain (es : List D) (vs : List (List (List Int))) (h : ∀ e ∈ es, e.plain = true ∧ e.depth ≤ 15) : PyData.plain (.tuple [.tuple es, viewsD vs]) = true ∧ PyData.depth (.tuple [.tuple es, viewsD vs]) ≤ 150 := by
  have h1 := views_plain vs
  have h2 : PyData.plainAll es = true := by
    have := plainAll_mp (fun e : D => e) es fun e he => (h e he).1
    rwa [List.map_id'] at this
  have h3 : PyData.depthAll es ≤ 15 := by
    have := depthAll_mp (fun e : D => e) 15 es fun e he => (h e he).2
    rwa [List.map_id'] at this
  simp [h1.1, h2, PyData.depth, PyData.depthAll]
  omega

theorem each_own (m : Nat) (hm : m ≤ 1000) (xs : List Int) (a b : List (List Int)) (env : Ev) (st : Sto) (ea eb : EE) (h3 : env[3]? = some (some (.d (.list (xs.map .int))))) (h10 : 10 < env.length) (ha : ∀ i, ea (env.set 10 i) st = .ok (.d (.tuple (a.map numsD))) st) (hb : ∀ i, eb (env.set 10 i) st = .ok (.d (.tuple (b.map numsD))) st) :
    compL (.nm 10) kYes (eIf (eTst (eOp vIn (eVar 10) (eVar 3))) ea eb) env ((List.range m).map fun k : Nat => PyData.int (0 + (k : Nat))) st = .ok ((eachV m xs a b).map fun own => .tuple (own.map numsD)) st := by
  unfold eachV
  rw [List.map_map]
  refine compL_mp _ _ _ fun i _ => ⟨_, rfl, rfl, ?_⟩
  have e3 : (env.set 10 (some (.d (.int (0 + (i : Nat))))))[3]? = some (some (.d (.list (xs.map .int)))) := by rw [List.getElem?_set_ne (by decide)]; exact h3
  have e10 : (env.set 10 (some (.d (.int (0 + (i : Nat))))))[10]? = some (some (.d (.int (0 + (i : Nat))))) := List.getElem?_set_self h10
  rw [eIf_eq, eTst_eq, eOp_eq, eVar_eq, e10, getv_ok, op1_ok, eVar_eq, e3, getv_ok, op2_ok, vIn_ints]
  rw [show (0 : Int) + (i : Int) = i by omega]
  by_cases q : (i : Int) ∈ xs
  · simp [q, ha]
  · simp [q, hb]

theorem fin_take (st : Sto) : fin 0 (.d (.bool true)) st = .ok (.d (.bool true)) [] := by
  unfold fin
  rw [List.take_zero]; rfl
theorem law_true (ns : List Int) (hn : ns.length ≤ 63) (n : Nat) : ∃ st, Fs (n + 23) i_law [.s ns] [] = .ok (.d (.bool true)) st := by
  have o0 : ∀ xs : List D, Okk [.lst xs] := fun _ => rfl
  obtain ⟨v, v1, v2, hv⟩ := c_draw (n + 19) ns 3 [] [] rfl hn (by decide) (by decide)
  obtain ⟨m, hm⟩ : ∃ m : Nat, (m : Int) = 1 + v := ⟨(1 + v).toNat, by omega⟩
  have m1 : 1 ≤ m := by omega
  have m3 : m ≤ 3 := by omega
  obtain ⟨l, xs, l1, l2, hl⟩ := some_drawn (n + 19) ns hn [some (.s ns), some (.r 0), some (.d (.int m)), none, none, none, none, none, none, none, none, none] rfl rfl (by simp) (List.range m) ([] ++ [.int 0]) [] rfl (by simp; omega)
  rw [List.length_append, List.length_range] at l2
  simp only [List.length_nil, List.length_cons] at l2
  obtain ⟨p, xs2, p1, p2, p3, hp⟩ := c_plain ns m 4 hn (by omega) (by decide) 3 (n + 14) xs [] (o0 xs) (by omega)
  obtain ⟨f, f1, f2, hf⟩ := c_draw (n + 19) ns 4 xs2 [] (o0 xs2) hn (by decide) (by omega)
  obtain ⟨g, hg⟩ : ∃ g : Nat, (g : Int) = f := ⟨f.toNat, by omega⟩
  subst hg
  have g4 : g < 4 := by omega
  have hS := nums_sub m l l1
  have hL : (l.map fun i : Nat => (i : Int)).length ≤ 1000 := by
    have := l1.length_le
    rw [List.length_range] at this
    rw [List.length_map]; omega
  have hlm : (l.map fun k : Nat => PyData.int (k : Nat)) = (l.map fun i : Nat => (i : Int)).map PyData.int := by rw [List.map_map]; rfl
  rw [hlm] at hl
  generalize (l.map fun i : Nat => (i : Int)) = ls at hS hL hl
  generalize hst : ([.lst (xs2 ++ [.int 0])] : Sto) = st
  have ok : Okk st := by rw [← hst]; exact o0 _
  rw [hst] at hf
  have pa : p.deep + 2 ≤ 12 := by omega
  have a1 := c_aloud (n + 6) m m1 m3 p p1 pa st ok
  have a2 := c_become (n + 6) m m1 m3 g g4 p p1 pa st ok
  have a3 := c_told (n + 6) m m1 m3 ls hS hL p p1 pa st ok
  have a4 := c_whispered (n + 6) m m1 m3 ls hS hL p p1 pa st ok
  have a5 := c_looked (n + 6) m m1 m3 ls hS hL g g4 st ok
  have a6 := c_whispered (n + 6) m m1 m3 ls hS hL (.fact g) g4 (by simp [Pl.deep]) st ok
  have a7 := c_lied (n + 6) m m1 m3 ls hS hL p p1 pa st ok
  have q0 : always.ok m 4 := ⟨(by decide : 0 < 4), (by decide : 0 < 4)⟩
  have d1 := d_one m m3 (ev0 p) p.deep n st ok (c_event0 m 4 p (n + 18) st ok p1 (by omega)) (by omega)
  have d2 := d_one m m3 (ev1 always g p) _ n st ok (c_event1 m 4 always p g g4 (n + 18) st ok q0 p1 (by simp [always, Pl.deep]) (by omega)) (by simp [always, Pl.deep]; omega)
  have d3 := d_two m m3 ls [[0], [1]] [[1], [1]] (by decide) (by decide) p always p1 q0 (by omega) (by decide) n st ok
  have d4 := d_two m m3 ls [[0], [1]] [[0, 1], [0, 1]] (by decide) (by decide) p (.no p) p1 p1 (by omega) (by simp [Pl.deep]; omega) n st ok
  have d5 := d_two m m3 ls [[0], [1]] [[0, 1], [0, 1]] (by decide) (by decide) (.fact g) (.no (.fact g)) g4 g4 (by simp [Pl.deep]) (by simp [Pl.deep]) n st ok
  have d6 := d_two m m3 ls [[1], [1]] [[0], [1]] (by decide) (by decide) (.no p) p p1 p1 (by simp [Pl.deep]; omega) (by omega) n st ok
  have w1 := fun es vs h => vNe_self (.tuple [.tuple es, viewsD vs]) (deed_plain es vs h).1 (deed_plain es vs h).2 st
  have hp' : Fs (n + 22) i__law_plain [.s ns, .r 0, .d (.int m), .d (.int 4), .d (.int 4)] [.lst xs] = .ok (.d p.d) [.lst xs2] := hp
  have s : small 0 = true ∧ small 1 = true ∧ small 2 = true ∧ small 3 = true := ⟨rfl, rfl, rfl, rfl⟩
  have hr := rng m (by omega)
  have hsm : small ((List.range m).map fun k : Nat => PyData.int (0 + (k : Nat))).length = true := small_le _ (by simp; omega)
  have al : ∀ env st, compL (.nm 10) kYes (eTup (aCons (eTup (aCons (eC (.int 0)) aNil)) aNil)) env ((List.range m).map fun k : Nat => PyData.int (0 + (k : Nat))) st = .ok ((List.replicate m [[0]]).map fun own => .tuple (own.map numsD)) st := fun env st => by
    have := compL_mp (st := st) (env := env) (tg := .nm 10) (tt := kYes) (ee := eTup (aCons (eTup (aCons (eC (.int 0)) aNil)) aNil)) (fun k : Nat => PyData.int (0 + (k : Nat))) (fun _ => .tuple [.tuple [.int 0]]) (List.range m) fun i _ => ⟨_, rfl, rfl, rfl⟩
    rw [this, List.map_replicate, List.map_const', List.length_range]; rfl
  have e0 : (ev0 p).plain = true ∧ (ev0 p).depth ≤ 15 := ⟨(ev0_plain p (by omega)).1, Nat.le_trans (ev0_plain p (by omega)).2 (by decide)⟩
  have e1 : (ev1 always g p).plain = true ∧ (ev1 always g p).depth ≤ 15 := ev1_plain always p g (by decide) (by omega)
  have e2 : (ev0 always).plain = true ∧ (ev0 always).depth ≤ 15 := ⟨(ev0_plain always (by decide)).1, Nat.le_trans (ev0_plain always (by decide)).2 (by decide)⟩
  have e3 : (ev0 (.no p)).plain = true ∧ (ev0 (.no p)).depth ≤ 15 := ⟨(ev0_plain (.no p) (by simp [Pl.deep]; omega)).1, Nat.le_trans (ev0_plain (.no p) (by simp [Pl.deep]; omega)).2 (by decide)⟩
  have e4 : (ev0 (.fact g)).plain = true ∧ (ev0 (.fact g)).depth ≤ 15 := ⟨(ev0_plain (.fact g) (by simp [Pl.deep])).1, Nat.le_trans (ev0_plain (.fact g) (by simp [Pl.deep])).2 (by decide)⟩
  have e5 : (ev0 (.no (.fact g))).plain = true ∧ (ev0 (.no (.fact g))).depth ≤ 15 := ⟨(ev0_plain (.no (.fact g)) (by simp [Pl.deep])).1, Nat.le_trans (ev0_plain (.no (.fact g)) (by simp [Pl.deep])).2 (by decide)⟩
  have u1 : vNe (.d (aloudD m p)) (.d (.tuple [.tuple [.tuple [p.d, .tuple []]], .tuple ((List.replicate m [[0]]).map fun own => .tuple (own.map numsD))])) st = some (.d (.bool false), st) := w1 [ev0 p] _ (List.forall_mem_cons.mpr ⟨e0, (List.forall_mem_nil _)⟩)
  have u2 : vNe (.d (becomeD m g p)) (.d (.tuple [.tuple [.tuple [(.tuple [.str "or", .tuple [.str "fact", .int 0], .tuple [.str "not", .tuple [.str "fact", .int 0]]]), .tuple [.tuple [.int g, p.d]]]], .tuple ((List.replicate m [[0]]).map fun own => .tuple (own.map numsD))])) st = some (.d (.bool false), st) := w1 [ev1 always g p] _ (List.forall_mem_cons.mpr ⟨e1, (List.forall_mem_nil _)⟩)
  have u3 : vNe (.d (toldD m ls p)) (.d (.tuple [.tuple [.tuple [p.d, .tuple []], .tuple [(.tuple [.str "or", .tuple [.str "fact", .int 0], .tuple [.str "not", .tuple [.str "fact", .int 0]]]), .tuple []]], .tuple ((eachV m ls [[0], [1]] [[1], [1]]).map fun own => .tuple (own.map numsD))])) st = some (.d (.bool false), st) := w1 [ev0 p, ev0 always] _ (List.forall_mem_cons.mpr ⟨e0, (List.forall_mem_cons.mpr ⟨e2, (List.forall_mem_nil _)⟩)⟩)
  have u4 : vNe (.d (whisD m ls p)) (.d (.tuple [.tuple [.tuple [p.d, .tuple []], .tuple [.tuple [.str "not", p.d], .tuple []]], .tuple ((eachV m ls [[0], [1]] [[0, 1], [0, 1]]).map fun own => .tuple (own.map numsD))])) st = some (.d (.bool false), st) := w1 [ev0 p, ev0 (.no p)] _ (List.forall_mem_cons.mpr ⟨e0, (List.forall_mem_cons.mpr ⟨e3, (List.forall_mem_nil _)⟩)⟩)
  have u5 : vNe (.d (whisD m ls (.fact g))) (.d (whisD m ls (.fact g))) st = some (.d (.bool false), st) := w1 [ev0 (.fact g), ev0 (.no (.fact g))] _ (List.forall_mem_cons.mpr ⟨e4, (List.forall_mem_cons.mpr ⟨e5, (List.forall_mem_nil _)⟩)⟩)
  have u6 : vNe (.d (liedD m ls p)) (.d (.tuple [.tuple [.tuple [.tuple [.str "not", p.d], .tuple []], .tuple [p.d, .tuple []]], .tuple ((eachV m ls [[1], [1]] [[0], [1]]).map fun own => .tuple (own.map numsD))])) st = some (.d (.bool false), st) := w1 [ev0 (.no p), ev0 p] _ (List.forall_mem_cons.mpr ⟨e3, (List.forall_mem_cons.mpr ⟨e0, (List.forall_mem_nil _)⟩)⟩)
  have o1 : ∀ a6 a7 a8 : Option Val, compL (.nm 10) kYes (eIf (eTst (eOp vIn (eVar 10) (eVar 3))) (eTup (aCons (eTup (aCons (eC (.int 0)) aNil)) (aCons (eTup (aCons (eC (.int 1)) aNil)) aNil))) (eTup (aCons (eTup (aCons (eC (.int 1)) aNil)) (aCons (eTup (aCons (eC (.int 1)) aNil)) aNil)))) [some (.s ns), some (.r 0), some (.d (.int m)), some (.d (.list (ls.map PyData.int))), some (.d p.d), some (.d (.int g)), a6, a7, a8, none, none, none] ((List.range m).map fun k : Nat => PyData.int (0 + (k : Nat))) st = _ := fun a6 a7 a8 => each_own m (by omega) ls [[0], [1]] [[1], [1]] _ st _ _ rfl (by simp) (fun _ => rfl) (fun _ => rfl)
  have o2 : ∀ a6 a7 a8 : Option Val, compL (.nm 10) kYes (eIf (eTst (eOp vIn (eVar 10) (eVar 3))) (eTup (aCons (eTup (aCons (eC (.int 0)) aNil)) (aCons (eTup (aCons (eC (.int 1)) aNil)) aNil))) (eTup (aCons (eTup (aCons (eC (.int 0)) (aCons (eC (.int 1)) aNil))) (aCons (eTup (aCons (eC (.int 0)) (aCons (eC (.int 1)) aNil))) aNil)))) [some (.s ns), some (.r 0), some (.d (.int m)), some (.d (.list (ls.map PyData.int))), some (.d p.d), some (.d (.int g)), a6, a7, a8, none, none, none] ((List.range m).map fun k : Nat => PyData.int (0 + (k : Nat))) st = _ := fun a6 a7 a8 => each_own m (by omega) ls [[0], [1]] [[0, 1], [0, 1]] _ st _ _ rfl (by simp) (fun _ => rfl) (fun _ => rfl)
  have o3 : ∀ a6 a7 a8 : Option Val, compL (.nm 10) kYes (eIf (eTst (eOp vIn (eVar 10) (eVar 3))) (eTup (aCons (eTup (aCons (eC (.int 1)) aNil)) (aCons (eTup (aCons (eC (.int 1)) aNil)) aNil))) (eTup (aCons (eTup (aCons (eC (.int 0)) aNil)) (aCons (eTup (aCons (eC (.int 1)) aNil)) aNil)))) [some (.s ns), some (.r 0), some (.d (.int m)), some (.d (.list (ls.map PyData.int))), some (.d p.d), some (.d (.int g)), a6, a7, a8, none, none, none] ((List.range m).map fun k : Nat => PyData.int (0 + (k : Nat))) st = _ := fun a6 a7 a8 => each_own m (by omega) ls [[1], [1]] [[0], [1]] _ st _ _ rfl (by simp) (fun _ => rfl) (fun _ => rfl)
  have d1' : Fs (n + 22) i_is_deed [.d (.int m), .d (.int 4), .d (aloudD m p)] st = .ok (.d (.bool true)) st := d1
  have d2' : Fs (n + 22) i_is_deed [.d (.int m), .d (.int 4), .d (becomeD m g p)] st = .ok (.d (.bool true)) st := d2
  have d3' : Fs (n + 22) i_is_deed [.d (.int m), .d (.int 4), .d (toldD m ls p)] st = .ok (.d (.bool true)) st := d3
  have d4' : Fs (n + 22) i_is_deed [.d (.int m), .d (.int 4), .d (whisD m ls p)] st = .ok (.d (.bool true)) st := d4
  have d5' : Fs (n + 22) i_is_deed [.d (.int m), .d (.int 4), .d (whisD m ls (.fact g))] st = .ok (.d (.bool true)) st := d5
  have d6' : Fs (n + 22) i_is_deed [.d (.int m), .d (.int 4), .d (liedD m ls p)] st = .ok (.d (.bool true)) st := d6
  have s6 : small 6 = true := rfl
  have k0 : vEq (.d (.list [])) (.d (.list [])) st = some (.d (.bool true), st) := rfl
  have kn : vNotN (.d (.bool true)) (.d (.bool true)) st = some (.d (.bool false), st) := rfl
  simp only [Pl.d] at a6
  refine ⟨[], ?_⟩
  rw [e_law]
  simp only [List.nil_append] at hv hl
  simp only [m_law, kit_NoneType_int, kit_bool_int, kit_int_int, kit_str_int, kit_list_int, kit_tuple_int, kit_dict_int, kit_NoneType_bool, kit_bool_bool, kit_int_bool, kit_str_bool, kit_list_bool, kit_tuple_bool, kit_dict_bool, kit_NoneType_tuple, kit_bool_tuple, kit_int_tuple, kit_str_tuple, kit_list_tuple, kit_tuple_tuple, kit_dict_tuple, kit_NoneType_str, kit_bool_str, kit_int_str, kit_str_str, kit_list_str, kit_tuple_str, kit_dict_str, kit_NoneType_list, kit_bool_list, kit_int_list, kit_str_list, kit_list_list, kit_tuple_list, kit_dict_list, andS_nx, andS_rt, andS_ex, andS_bad, sSeq_eq, sNx_eq, sNever_eq, sRetN_eq, retS_ok, retS_exc, retS_bad, sRet_eq, dropS_ok, dropS_exc, sExpr_eq, setS_ok, setS_exc, sSet_eq, ifS_true, ifS_false, sIf_eq, eC_eq, op2_ok, op1_ok, eOp_eq, tst_ok, eTst_eq, aNil_eq, cons2_ok, cons1_ok, aCons_eq, cb_ok, eCB_eq, cl_ok, eCl_eq, getv_ok, eVar_eq, kand_true, kand_false, kAnd_eq, kor_true, kor_false, kOr_eq, knot_ok, kNot_eq, kYes_eq, ifE_true, ifE_false, eIf_eq, tup_ok, eTup_eq, lstD_ok, eLst_eq, lstR_ok, eLstR_eq, toDs_nil, toDs_d, isi_ok, eIsi_eq, notE_ok, eNot_eq, andE_true, andE_false, eAnd_eq, orE_true, orE_false, eOr_eq, ch3_true, ch3_false, ch2_ok, ch1_ok, eChain_eq, parS_ok, sParN_eq, listD_ok, lcE_ok, eLc_eq, seqI_list, seqI_tuple, iSeq_eq, rangeI_ok, iRange_eq, forS_ok, sFor_eq, slS3_ok, slS2_ok, slS1_ok, eSl_eq, oNone_eq, oS_ok, oSome_eq, setTS_ok, sSetT_eq, starS_ok, sStar_eq, app2_ok, app1_ok, eAppend_eq, negE_ok, eNeg_eq, fin0_nx, fin0_rt, noX_ok, w_fact_after, w_fact_holds, w_fact_may, w_fact_and, w_fact_or, w_fact_not, w_fact_all, w_fact_common, w_after_fact, w_after_holds, w_after_may, w_after_and, w_after_or, w_after_not, w_after_all, w_after_common, w_holds_fact, w_holds_after, w_holds_may, w_holds_and, w_holds_or, w_holds_not, w_holds_all, w_holds_common, w_may_fact, w_may_after, w_may_holds, w_may_and, w_may_or, w_may_not, w_may_all, w_may_common, w_and_fact, w_and_after, w_and_holds, w_and_may, w_and_or, w_and_not, w_and_all, w_and_common, w_or_fact, w_or_after, w_or_holds, w_or_may, w_or_and, w_or_not, w_or_all, w_or_common, w_not_fact, w_not_after, w_not_holds, w_not_may, w_not_and, w_not_or, w_not_all, w_not_common, w_all_fact, w_all_after, w_all_holds, w_all_may, w_all_and, w_all_or, w_all_not, w_all_common, w_common_fact, w_common_after, w_common_holds, w_common_may, w_common_and, w_common_or, w_common_not, w_common_all, eqv_int, eqv_str, eqv_tn, eqv_t0, fits_int, fits_str, plain_int, plain_str, plain_tup, plain_lst, plainAll_nil, plainAll_cons, depth_int, depth_str, depth_non, depth_bool, plain_non, plain_bool, depth_tup0, zipI_tup, zipI_lst, iZip_eq, lc2D_ok, lc2E_ok, eLc2_eq, cut_1, List.getElem?_cons_zero, List.getElem?_cons_succ, List.set_cons_zero, List.set_cons_succ, List.length_cons, List.length_nil, if_true, if_false, reduceIte, Bool.not_true, Bool.not_false, decide_true, decide_false, Bool.true_and, Bool.false_and, Bool.and_true, Bool.and_false, R.of_some, Option.map_some, Option.map_none, wipeE, pur2, dI, iSub, iLt, iLe, iGt, iGe, vAdd, tyOf, vIx, sqOf, lsOf, bLen, lenOf, datOf, setAll, Tg.put, vSl, toD, Nat.reduceAdd, reduceCtorEq, Bool.false_eq_true, List.nil_append, toDs, s, hv, ← hm, hr, and_self, Int.toNat_natCast, hsm, hl, hp', hf, setVs, al, bTuple, a1, a2, a3, a4, a5, a6, a7, u1, u2, u3, u4, u5, u6, o1, o2, o3, s6, List.cons_append, compL, noX_ok, d1', d2', d3', d4', d5', d6', kn, R.bind, k0]
  exact fin_take st
end Lw
end

section
set_option maxRecDepth 100000
set_option maxHeartbeats 0
namespace Lw
open PySem PySem.Spec PyProof.Rows L2 Mi
def fn : List He.DefD := [
  ⟨("is_whole", none), "is_whole", "is_whole", defArgs (top 7), defBody (top 7), defScope (top 7), [], []⟩,
  ⟨("are_numbers", none), "are_numbers", "are_numbers", defArgs (top 8), defBody (top 8), defScope (top 8), [], []⟩,
  ⟨("are_views", none), "are_views", "are_views", defArgs (top 9), defBody (top 9), defScope (top 9), [], []⟩,
  ⟨("sizes_of", none), "sizes_of", "sizes_of", defArgs (top 14), defBody (top 14), defScope (top 14), [], []⟩,
  ⟨("size_of", none), "size_of", "size_of", defArgs (top 15), defBody (top 15), defScope (top 15), [], []⟩,
  ⟨("size_after", none), "size_after", "size_after", defArgs (top 16), defBody (top 16), defScope (top 16), [], []⟩,
  ⟨("size_of_event", none), "size_of_event", "size_of_event", defArgs (top 17), defBody (top 17), defScope (top 17), [], []⟩,
  ⟨("size_of_deed", none), "size_of_deed", "size_of_deed", defArgs (top 18), defBody (top 18), defScope (top 18), [], []⟩,
  ⟨("good_deed", none), "good_deed", "good_deed", defArgs (top 19), defBody (top 19), defScope (top 19), [], []⟩,
  ⟨("is_deed", none), "is_deed", "is_deed", defArgs (top 20), defBody (top 20), defScope (top 20), [], []⟩,
  ⟨("need_minds", none), "need_minds", "need_minds", defArgs (top 24), defBody (top 24), defScope (top 24), [], []⟩,
  ⟨("need_some", none), "need_some", "need_some", defArgs (top 25), defBody (top 25), defScope (top 25), [], []⟩,
  ⟨("need_fact", none), "need_fact", "need_fact", defArgs (top 26), defBody (top 26), defScope (top 26), [], []⟩,
  ⟨("need_inner", none), "need_inner", "need_inner", defArgs (top 27), defBody (top 27), defScope (top 27), [], []⟩,
  ⟨("for_each", none), "for_each", "for_each", defArgs (top 28), defBody (top 28), defScope (top 28), [], []⟩,
  ⟨("aloud", none), "aloud", "aloud", defArgs (top 29), defBody (top 29), defScope (top 29), [], []⟩,
  ⟨("told_some", none), "told_some", "told_some", defArgs (top 30), defBody (top 30), defScope (top 30), [], []⟩,
  ⟨("whisper", none), "whisper", "whisper", defArgs (top 31), defBody (top 31), defScope (top 31), [], []⟩,
  ⟨("whispered", none), "whispered", "whispered", defArgs (top 32), defBody (top 32), defScope (top 32), [], []⟩,
  ⟨("looked", none), "looked", "looked", defArgs (top 33), defBody (top 33), defScope (top 33), [], []⟩,
  ⟨("lied", none), "lied", "lied", defArgs (top 34), defBody (top 34), defScope (top 34), [], []⟩,
  ⟨("become", none), "become", "become", defArgs (top 35), defBody (top 35), defScope (top 35), [], []⟩,
  ⟨("_law_cell_at", none), "_law_cell_at", "_law_cell_at", defArgs (top 37), defBody (top 37), defScope (top 37), [], []⟩,
  ⟨("_law_mixed", none), "_law_mixed", "_law_mixed", defArgs (top 38), defBody (top 38), defScope (top 38), [], []⟩,
  ⟨("_law_draw", none), "_law_draw", "_law_draw", defArgs (top 39), defBody (top 39), defScope (top 39), [], []⟩,
  ⟨("_law_pick", none), "_law_pick", "_law_pick", defArgs (top 40), defBody (top 40), defScope (top 40), [], []⟩,
  ⟨("_law_plain", none), "_law_plain", "_law_plain", defArgs (top 41), defBody (top 41), defScope (top 41), [], []⟩,
  ⟨("law", none), "law", "law", defArgs (top 42), defBody (top 42), defScope (top 42), [], []⟩]
def glos : List Str := (["is_whole", "are_numbers", "are_views", "sizes_of", "size_of", "size_after", "size_of_event", "size_of_deed", "good_deed", "is_deed", "need_minds", "need_some", "need_fact", "need_inner", "for_each", "aloud", "told_some", "whisper", "whispered", "looked", "lied", "become", "_law_cell_at", "_law_mixed", "_law_draw"] : List Str) ++ (["_law_pick", "_law_plain", "law"] : List Str)
def chC (K : PySem.W.Frag) : Bool := gcB K "DEEP" (.int 12) && gcB K "AFTER" (.int 3) && gcB K "EVENTS" (.int 5) && gcB K "FACTS" (.int 4) && gcB K "ALWAYS" (.tuple [(.str "or"), (.tuple [(.str "fact"), (.int 0)]), (.tuple [(.str "not"), (.tuple [(.str "fact"), (.int 0)])])])
def chk (K : PySem.W.Frag) : Bool := (blB K && glos.all fun x => globB K x) && chC K
abbrev R : PySem.W.OpenRow := PySem.W.OpenLaw.row PySem.Challenge.rw_mindsteps_k10_whole_usual_deeds
abbrev hk : PySem.W.Hook := Mi.hookM 4 fn chk
def ob (s : PySem.W.SharedT) : Mi.AlM := Mi.obsMG 4 fn chk (HandSHeadRun.getT s)
theorem ob_eq (s : PySem.W.SharedT) : ob s = hk.obs s.abs := Mi.obsMG_eq (HandSHeadRun.getT_eq s)
def loose : List Str := (["__name__", "MindError", "NoMind", "NoSaying", "NoFact", "NoMinds", "is_whole", "are_numbers", "are_views", "DEEP", "AFTER", "EVENTS", "sizes_of", "size_of", "size_after", "size_of_event", "size_of_deed", "good_deed", "is_deed", "FACTS", "ALWAYS", "need_minds", "need_some", "need_fact", "need_inner"] : List Str) ++ (["for_each", "aloud", "told_some", "whisper", "whispered", "looked", "lied", "become", "_law_cell_at", "_law_mixed", "_law_draw", "_law_pick", "_law_plain"] : List Str)
theorem run (w : World) : HandSHeadRun.RunEq R (PySem.W.view R.prog [42]) hk ob 3000 loose w := by
  intro os
  kernel_rfl
section
variable {cl : Nat → Addr} {P : Program} {w : World} {K : PySem.W.Frag} {h : Heap} {mg : Str → Option Value}
theorem glo_of (X : K.In h) (G : h.Ns mainGlobals mg) (c : SaysM fn chk K) (x : Str) (hx : x ∈ glos) : mg x = some (.ref (He.ga K x)) := by
  have c1 := (Bool.and_eq_true_iff.mp c.check).1
  have c2 := (Bool.and_eq_true_iff.mp c1).2
  exact He.glo_ok X G (List.all_eq_true.mp c2 x hx)
theorem bl_of (X : K.In h) (G : h.Ns mainGlobals mg) (c : SaysM fn chk K) : Bl mg := blB_ok X G (Bool.and_eq_true_iff.mp (Bool.and_eq_true_iff.mp c.check).1).1
theorem cs_of (X : K.In h) (G : h.Ns mainGlobals mg) (c : SaysM fn chk K) : Cs ⟨K, w, cl⟩ mg := by
  have c0 : chC K = true := (Bool.and_eq_true_iff.mp c.check).2
  unfold chC at c0
  obtain ⟨c0, g4⟩ := Bool.and_eq_true_iff.mp c0
  obtain ⟨c0, g3⟩ := Bool.and_eq_true_iff.mp c0
  obtain ⟨c0, g2⟩ := Bool.and_eq_true_iff.mp c0
  obtain ⟨c0, g1⟩ := Bool.and_eq_true_iff.mp c0
  exact ⟨gcB_ok X G c0, gcB_ok X G g1, gcB_ok X G g2, gcB_ok X G g3, gcB_ok X G g4⟩
theorem k_is_whole (X : K.In h) (G : h.Ns mainGlobals mg) (c : SaysM fn chk K) : ∃ fd, FunD K "is_whole" "is_whole" (defArgs (top 7)) (defBody (top 7)) (defScope (top 7)) [] [] (He.ga K "is_whole") fd ∧ mg "is_whole" = some (.ref (He.ga K "is_whole")) ∧ Binds K fd ["thing", "low", "high"] [] := by
  obtain ⟨fd, F⟩ := c.def_ 0 rfl
  exact ⟨fd, F, glo_of X G c "is_whole" (by decide +kernel), F.bindsN fun _ _ _ _ _ _ us hl => match us, hl with | [_, _, _], _ => rfl⟩
theorem k_are_numbers (X : K.In h) (G : h.Ns mainGlobals mg) (c : SaysM fn chk K) : ∃ fd, FunD K "are_numbers" "are_numbers" (defArgs (top 8)) (defBody (top 8)) (defScope (top 8)) [] [] (He.ga K "are_numbers") fd ∧ mg "are_numbers" = some (.ref (He.ga K "are_numbers")) ∧ Binds K fd ["thing", "many"] [] := by
  obtain ⟨fd, F⟩ := c.def_ 1 rfl
  exact ⟨fd, F, glo_of X G c "are_numbers" (by decide +kernel), F.bindsN fun _ _ _ _ _ _ us hl => match us, hl with | [_, _], _ => rfl⟩
theorem k_are_views (X : K.In h) (G : h.Ns mainGlobals mg) (c : SaysM fn chk K) : ∃ fd, FunD K "are_views" "are_views" (defArgs (top 9)) (defBody (top 9)) (defScope (top 9)) [] [] (He.ga K "are_views") fd ∧ mg "are_views" = some (.ref (He.ga K "are_views")) ∧ Binds K fd ["thing", "minds", "many"] [] := by
  obtain ⟨fd, F⟩ := c.def_ 2 rfl
  exact ⟨fd, F, glo_of X G c "are_views" (by decide +kernel), F.bindsN fun _ _ _ _ _ _ us hl => match us, hl with | [_, _, _], _ => rfl⟩
theorem k_sizes_of (X : K.In h) (G : h.Ns mainGlobals mg) (c : SaysM fn chk K) : ∃ fd, FunD K "sizes_of" "sizes_of" (defArgs (top 14)) (defBody (top 14)) (defScope (top 14)) [] [] (He.ga K "sizes_of") fd ∧ mg "sizes_of" = some (.ref (He.ga K "sizes_of")) ∧ Binds K fd ["sizes"] [] := by
  obtain ⟨fd, F⟩ := c.def_ 3 rfl
  exact ⟨fd, F, glo_of X G c "sizes_of" (by decide +kernel), F.bindsN fun _ _ _ _ _ _ us hl => match us, hl with | [_], _ => rfl⟩
theorem k_size_of (X : K.In h) (G : h.Ns mainGlobals mg) (c : SaysM fn chk K) : ∃ fd, FunD K "size_of" "size_of" (defArgs (top 15)) (defBody (top 15)) (defScope (top 15)) [] [] (He.ga K "size_of") fd ∧ mg "size_of" = some (.ref (He.ga K "size_of")) ∧ Binds K fd ["minds", "facts", "thing"] [] := by
  obtain ⟨fd, F⟩ := c.def_ 4 rfl
  exact ⟨fd, F, glo_of X G c "size_of" (by decide +kernel), F.bindsN fun _ _ _ _ _ _ us hl => match us, hl with | [_, _, _], _ => rfl⟩
theorem k_size_after (X : K.In h) (G : h.Ns mainGlobals mg) (c : SaysM fn chk K) : ∃ fd, FunD K "size_after" "size_after" (defArgs (top 16)) (defBody (top 16)) (defScope (top 16)) [] [] (He.ga K "size_after") fd ∧ mg "size_after" = some (.ref (He.ga K "size_after")) ∧ Binds K fd ["minds", "facts", "rest"] [] := by
  obtain ⟨fd, F⟩ := c.def_ 5 rfl
  exact ⟨fd, F, glo_of X G c "size_after" (by decide +kernel), F.bindsN fun _ _ _ _ _ _ us hl => match us, hl with | [_, _, _], _ => rfl⟩
theorem k_size_of_event (X : K.In h) (G : h.Ns mainGlobals mg) (c : SaysM fn chk K) : ∃ fd, FunD K "size_of_event" "size_of_event" (defArgs (top 17)) (defBody (top 17)) (defScope (top 17)) [] [] (He.ga K "size_of_event") fd ∧ mg "size_of_event" = some (.ref (He.ga K "size_of_event")) ∧ Binds K fd ["minds", "facts", "thing"] [] := by
  obtain ⟨fd, F⟩ := c.def_ 6 rfl
  exact ⟨fd, F, glo_of X G c "size_of_event" (by decide +kernel), F.bindsN fun _ _ _ _ _ _ us hl => match us, hl with | [_, _, _], _ => rfl⟩
theorem k_size_of_deed (X : K.In h) (G : h.Ns mainGlobals mg) (c : SaysM fn chk K) : ∃ fd, FunD K "size_of_deed" "size_of_deed" (defArgs (top 18)) (defBody (top 18)) (defScope (top 18)) [] [] (He.ga K "size_of_deed") fd ∧ mg "size_of_deed" = some (.ref (He.ga K "size_of_deed")) ∧ Binds K fd ["minds", "facts", "thing"] [] := by
  obtain ⟨fd, F⟩ := c.def_ 7 rfl
  exact ⟨fd, F, glo_of X G c "size_of_deed" (by decide +kernel), F.bindsN fun _ _ _ _ _ _ us hl => match us, hl with | [_, _, _], _ => rfl⟩
theorem k_good_deed (X : K.In h) (G : h.Ns mainGlobals mg) (c : SaysM fn chk K) : ∃ fd, FunD K "good_deed" "good_deed" (defArgs (top 19)) (defBody (top 19)) (defScope (top 19)) [] [] (He.ga K "good_deed") fd ∧ mg "good_deed" = some (.ref (He.ga K "good_deed")) ∧ Binds K fd ["minds", "facts", "thing"] [] := by
  obtain ⟨fd, F⟩ := c.def_ 8 rfl
  exact ⟨fd, F, glo_of X G c "good_deed" (by decide +kernel), F.bindsN fun _ _ _ _ _ _ us hl => match us, hl with | [_, _, _], _ => rfl⟩
theorem k_is_deed (X : K.In h) (G : h.Ns mainGlobals mg) (c : SaysM fn chk K) : ∃ fd, FunD K "is_deed" "is_deed" (defArgs (top 20)) (defBody (top 20)) (defScope (top 20)) [] [] (He.ga K "is_deed") fd ∧ mg "is_deed" = some (.ref (He.ga K "is_deed")) ∧ Binds K fd ["minds", "facts", "thing"] [] := by
  obtain ⟨fd, F⟩ := c.def_ 9 rfl
  exact ⟨fd, F, glo_of X G c "is_deed" (by decide +kernel), F.bindsN fun _ _ _ _ _ _ us hl => match us, hl with | [_, _, _], _ => rfl⟩
theorem k_need_minds (X : K.In h) (G : h.Ns mainGlobals mg) (c : SaysM fn chk K) : ∃ fd, FunD K "need_minds" "need_minds" (defArgs (top 24)) (defBody (top 24)) (defScope (top 24)) [] [] (He.ga K "need_minds") fd ∧ mg "need_minds" = some (.ref (He.ga K "need_minds")) ∧ Binds K fd ["minds"] [] := by
  obtain ⟨fd, F⟩ := c.def_ 10 rfl
  exact ⟨fd, F, glo_of X G c "need_minds" (by decide +kernel), F.bindsN fun _ _ _ _ _ _ us hl => match us, hl with | [_], _ => rfl⟩
theorem k_need_some (X : K.In h) (G : h.Ns mainGlobals mg) (c : SaysM fn chk K) : ∃ fd, FunD K "need_some" "need_some" (defArgs (top 25)) (defBody (top 25)) (defScope (top 25)) [] [] (He.ga K "need_some") fd ∧ mg "need_some" = some (.ref (He.ga K "need_some")) ∧ Binds K fd ["minds", "some"] [] := by
  obtain ⟨fd, F⟩ := c.def_ 11 rfl
  exact ⟨fd, F, glo_of X G c "need_some" (by decide +kernel), F.bindsN fun _ _ _ _ _ _ us hl => match us, hl with | [_, _], _ => rfl⟩
theorem k_need_fact (X : K.In h) (G : h.Ns mainGlobals mg) (c : SaysM fn chk K) : ∃ fd, FunD K "need_fact" "need_fact" (defArgs (top 26)) (defBody (top 26)) (defScope (top 26)) [] [] (He.ga K "need_fact") fd ∧ mg "need_fact" = some (.ref (He.ga K "need_fact")) ∧ Binds K fd ["fact"] [] := by
  obtain ⟨fd, F⟩ := c.def_ 12 rfl
  exact ⟨fd, F, glo_of X G c "need_fact" (by decide +kernel), F.bindsN fun _ _ _ _ _ _ us hl => match us, hl with | [_], _ => rfl⟩
theorem k_need_inner (X : K.In h) (G : h.Ns mainGlobals mg) (c : SaysM fn chk K) : ∃ fd, FunD K "need_inner" "need_inner" (defArgs (top 27)) (defBody (top 27)) (defScope (top 27)) [] [] (He.ga K "need_inner") fd ∧ mg "need_inner" = some (.ref (He.ga K "need_inner")) ∧ Binds K fd ["minds", "saying", "more"] [] := by
  obtain ⟨fd, F⟩ := c.def_ 13 rfl
  exact ⟨fd, F, glo_of X G c "need_inner" (by decide +kernel), F.bindsN fun _ _ _ _ _ _ us hl => match us, hl with | [_, _, _], _ => rfl⟩
theorem k_for_each (X : K.In h) (G : h.Ns mainGlobals mg) (c : SaysM fn chk K) : ∃ fd, FunD K "for_each" "for_each" (defArgs (top 28)) (defBody (top 28)) (defScope (top 28)) [] [] (He.ga K "for_each") fd ∧ mg "for_each" = some (.ref (He.ga K "for_each")) ∧ Binds K fd ["minds", "some", "inside", "outside"] [] := by
  obtain ⟨fd, F⟩ := c.def_ 14 rfl
  exact ⟨fd, F, glo_of X G c "for_each" (by decide +kernel), F.bindsN fun _ _ _ _ _ _ us hl => match us, hl with | [_, _, _, _], _ => rfl⟩
theorem k_aloud (X : K.In h) (G : h.Ns mainGlobals mg) (c : SaysM fn chk K) : ∃ fd, FunD K "aloud" "aloud" (defArgs (top 29)) (defBody (top 29)) (defScope (top 29)) [] [] (He.ga K "aloud") fd ∧ mg "aloud" = some (.ref (He.ga K "aloud")) ∧ Binds K fd ["minds", "saying"] [] := by
  obtain ⟨fd, F⟩ := c.def_ 15 rfl
  exact ⟨fd, F, glo_of X G c "aloud" (by decide +kernel), F.bindsN fun _ _ _ _ _ _ us hl => match us, hl with | [_, _], _ => rfl⟩
theorem k_told_some (X : K.In h) (G : h.Ns mainGlobals mg) (c : SaysM fn chk K) : ∃ fd, FunD K "told_some" "told_some" (defArgs (top 30)) (defBody (top 30)) (defScope (top 30)) [] [] (He.ga K "told_some") fd ∧ mg "told_some" = some (.ref (He.ga K "told_some")) ∧ Binds K fd ["minds", "some", "saying"] [] := by
  obtain ⟨fd, F⟩ := c.def_ 16 rfl
  exact ⟨fd, F, glo_of X G c "told_some" (by decide +kernel), F.bindsN fun _ _ _ _ _ _ us hl => match us, hl with | [_, _, _], _ => rfl⟩
theorem k_whisper (X : K.In h) (G : h.Ns mainGlobals mg) (c : SaysM fn chk K) : ∃ fd, FunD K "whisper" "whisper" (defArgs (top 31)) (defBody (top 31)) (defScope (top 31)) [] [] (He.ga K "whisper") fd ∧ mg "whisper" = some (.ref (He.ga K "whisper")) ∧ Binds K fd ["minds", "some", "saying"] [] := by
  obtain ⟨fd, F⟩ := c.def_ 17 rfl
  exact ⟨fd, F, glo_of X G c "whisper" (by decide +kernel), F.bindsN fun _ _ _ _ _ _ us hl => match us, hl with | [_, _, _], _ => rfl⟩
theorem k_whispered (X : K.In h) (G : h.Ns mainGlobals mg) (c : SaysM fn chk K) : ∃ fd, FunD K "whispered" "whispered" (defArgs (top 32)) (defBody (top 32)) (defScope (top 32)) [] [] (He.ga K "whispered") fd ∧ mg "whispered" = some (.ref (He.ga K "whispered")) ∧ Binds K fd ["minds", "some", "saying"] [] := by
  obtain ⟨fd, F⟩ := c.def_ 18 rfl
  exact ⟨fd, F, glo_of X G c "whispered" (by decide +kernel), F.bindsN fun _ _ _ _ _ _ us hl => match us, hl with | [_, _, _], _ => rfl⟩
theorem k_looked (X : K.In h) (G : h.Ns mainGlobals mg) (c : SaysM fn chk K) : ∃ fd, FunD K "looked" "looked" (defArgs (top 33)) (defBody (top 33)) (defScope (top 33)) [] [] (He.ga K "looked") fd ∧ mg "looked" = some (.ref (He.ga K "looked")) ∧ Binds K fd ["minds", "some", "fact"] [] := by
  obtain ⟨fd, F⟩ := c.def_ 19 rfl
  exact ⟨fd, F, glo_of X G c "looked" (by decide +kernel), F.bindsN fun _ _ _ _ _ _ us hl => match us, hl with | [_, _, _], _ => rfl⟩
theorem k_lied (X : K.In h) (G : h.Ns mainGlobals mg) (c : SaysM fn chk K) : ∃ fd, FunD K "lied" "lied" (defArgs (top 34)) (defBody (top 34)) (defScope (top 34)) [] [] (He.ga K "lied") fd ∧ mg "lied" = some (.ref (He.ga K "lied")) ∧ Binds K fd ["minds", "some", "saying"] [] := by
  obtain ⟨fd, F⟩ := c.def_ 20 rfl
  exact ⟨fd, F, glo_of X G c "lied" (by decide +kernel), F.bindsN fun _ _ _ _ _ _ us hl => match us, hl with | [_, _, _], _ => rfl⟩
theorem k_become (X : K.In h) (G : h.Ns mainGlobals mg) (c : SaysM fn chk K) : ∃ fd, FunD K "become" "become" (defArgs (top 35)) (defBody (top 35)) (defScope (top 35)) [] [] (He.ga K "become") fd ∧ mg "become" = some (.ref (He.ga K "become")) ∧ Binds K fd ["minds", "fact", "saying"] [] := by
  obtain ⟨fd, F⟩ := c.def_ 21 rfl
  exact ⟨fd, F, glo_of X G c "become" (by decide +kernel), F.bindsN fun _ _ _ _ _ _ us hl => match us, hl with | [_, _, _], _ => rfl⟩
theorem k__law_cell_at (X : K.In h) (G : h.Ns mainGlobals mg) (c : SaysM fn chk K) : ∃ fd, FunD K "_law_cell_at" "_law_cell_at" (defArgs (top 37)) (defBody (top 37)) (defScope (top 37)) [] [] (He.ga K "_law_cell_at") fd ∧ mg "_law_cell_at" = some (.ref (He.ga K "_law_cell_at")) ∧ Binds K fd ["script", "k"] [] := by
  obtain ⟨fd, F⟩ := c.def_ 22 rfl
  exact ⟨fd, F, glo_of X G c "_law_cell_at" (by decide +kernel), F.bindsN fun _ _ _ _ _ _ us hl => match us, hl with | [_, _], _ => rfl⟩
theorem k__law_mixed (X : K.In h) (G : h.Ns mainGlobals mg) (c : SaysM fn chk K) : ∃ fd, FunD K "_law_mixed" "_law_mixed" (defArgs (top 38)) (defBody (top 38)) (defScope (top 38)) [] [] (He.ga K "_law_mixed") fd ∧ mg "_law_mixed" = some (.ref (He.ga K "_law_mixed")) ∧ Binds K fd ["script", "k", "bound"] [] := by
  obtain ⟨fd, F⟩ := c.def_ 23 rfl
  exact ⟨fd, F, glo_of X G c "_law_mixed" (by decide +kernel), F.bindsN fun _ _ _ _ _ _ us hl => match us, hl with | [_, _, _], _ => rfl⟩
theorem k__law_draw (X : K.In h) (G : h.Ns mainGlobals mg) (c : SaysM fn chk K) : ∃ fd, FunD K "_law_draw" "_law_draw" (defArgs (top 39)) (defBody (top 39)) (defScope (top 39)) [] [] (He.ga K "_law_draw") fd ∧ mg "_law_draw" = some (.ref (He.ga K "_law_draw")) ∧ Binds K fd ["script", "town", "bound"] [] := by
  obtain ⟨fd, F⟩ := c.def_ 24 rfl
  exact ⟨fd, F, glo_of X G c "_law_draw" (by decide +kernel), F.bindsN fun _ _ _ _ _ _ us hl => match us, hl with | [_, _, _], _ => rfl⟩
theorem k__law_pick (X : K.In h) (G : h.Ns mainGlobals mg) (c : SaysM fn chk K) : ∃ fd, FunD K "_law_pick" "_law_pick" (defArgs (top 40)) (defBody (top 40)) (defScope (top 40)) [] [] (He.ga K "_law_pick") fd ∧ mg "_law_pick" = some (.ref (He.ga K "_law_pick")) ∧ Binds K fd ["script", "town", "some"] [] := by
  obtain ⟨fd, F⟩ := c.def_ 25 rfl
  exact ⟨fd, F, glo_of X G c "_law_pick" (by decide +kernel), F.bindsN fun _ _ _ _ _ _ us hl => match us, hl with | [_, _, _], _ => rfl⟩
theorem k__law_plain (X : K.In h) (G : h.Ns mainGlobals mg) (c : SaysM fn chk K) : ∃ fd, FunD K "_law_plain" "_law_plain" (defArgs (top 41)) (defBody (top 41)) (defScope (top 41)) [] [] (He.ga K "_law_plain") fd ∧ mg "_law_plain" = some (.ref (He.ga K "_law_plain")) ∧ Binds K fd ["script", "town", "minds", "facts", "deep"] [] := by
  obtain ⟨fd, F⟩ := c.def_ 26 rfl
  exact ⟨fd, F, glo_of X G c "_law_plain" (by decide +kernel), F.bindsN fun _ _ _ _ _ _ us hl => match us, hl with | [_, _, _, _, _], _ => rfl⟩
theorem k_law (X : K.In h) (G : h.Ns mainGlobals mg) (c : SaysM fn chk K) : ∃ fd, FunD K "law" "law" (defArgs (top 42)) (defBody (top 42)) (defScope (top 42)) [] [] (He.ga K "law") fd ∧ mg "law" = some (.ref (He.ga K "law")) ∧ Binds K fd ["script"] [] := by
  obtain ⟨fd, F⟩ := c.def_ 27 rfl
  exact ⟨fd, F, glo_of X G c "law" (by decide +kernel), F.bindsN fun _ _ _ _ _ _ us hl => match us, hl with | [_], _ => rfl⟩
theorem tb (X : K.In h) (G : h.Ns mainGlobals mg) (c : SaysM fn chk K) (base : Heap) : ∀ k, Tb cl P w K mg base k (Fs k)
  | 0 => by
    obtain ⟨fd0, F0, g0, b0⟩ := k_is_whole X G c
    obtain ⟨fd1, F1, g1, b1⟩ := k_are_numbers X G c
    obtain ⟨fd2, F2, g2, b2⟩ := k_are_views X G c
    obtain ⟨fd3, F3, g3, b3⟩ := k_sizes_of X G c
    obtain ⟨fd4, F4, g4, b4⟩ := k_size_of X G c
    obtain ⟨fd5, F5, g5, b5⟩ := k_size_after X G c
    obtain ⟨fd6, F6, g6, b6⟩ := k_size_of_event X G c
    obtain ⟨fd7, F7, g7, b7⟩ := k_size_of_deed X G c
    obtain ⟨fd8, F8, g8, b8⟩ := k_good_deed X G c
    obtain ⟨fd9, F9, g9, b9⟩ := k_is_deed X G c
    obtain ⟨fd10, F10, g10, b10⟩ := k_need_minds X G c
    obtain ⟨fd11, F11, g11, b11⟩ := k_need_some X G c
    obtain ⟨fd12, F12, g12, b12⟩ := k_need_fact X G c
    obtain ⟨fd13, F13, g13, b13⟩ := k_need_inner X G c
    obtain ⟨fd14, F14, g14, b14⟩ := k_for_each X G c
    obtain ⟨fd15, F15, g15, b15⟩ := k_aloud X G c
    obtain ⟨fd16, F16, g16, b16⟩ := k_told_some X G c
    obtain ⟨fd17, F17, g17, b17⟩ := k_whisper X G c
    obtain ⟨fd18, F18, g18, b18⟩ := k_whispered X G c
    obtain ⟨fd19, F19, g19, b19⟩ := k_looked X G c
    obtain ⟨fd20, F20, g20, b20⟩ := k_lied X G c
    obtain ⟨fd21, F21, g21, b21⟩ := k_become X G c
    obtain ⟨fd22, F22, g22, b22⟩ := k__law_cell_at X G c
    obtain ⟨fd23, F23, g23, b23⟩ := k__law_mixed X G c
    obtain ⟨fd24, F24, g24, b24⟩ := k__law_draw X G c
    obtain ⟨fd25, F25, g25, b25⟩ := k__law_pick X G c
    obtain ⟨fd26, F26, g26, b26⟩ := k__law_plain X G c
    obtain ⟨fd27, F27, g27, b27⟩ := k_law X G c
    exact ⟨fok_bad rfl g0 F0.kp b0, fok_bad rfl g1 F1.kp b1, fok_bad rfl g2 F2.kp b2, fok_bad rfl g3 F3.kp b3, fok_bad rfl g4 F4.kp b4, fok_bad rfl g5 F5.kp b5, fok_bad rfl g6 F6.kp b6, fok_bad rfl g7 F7.kp b7, fok_bad rfl g8 F8.kp b8, fok_bad rfl g9 F9.kp b9, fok_bad rfl g10 F10.kp b10, fok_bad rfl g11 F11.kp b11, fok_bad rfl g12 F12.kp b12, fok_bad rfl g13 F13.kp b13, fok_bad rfl g14 F14.kp b14, fok_bad rfl g15 F15.kp b15, fok_bad rfl g16 F16.kp b16, fok_bad rfl g17 F17.kp b17, fok_bad rfl g18 F18.kp b18, fok_bad rfl g19 F19.kp b19, fok_bad rfl g20 F20.kp b20, fok_bad rfl g21 F21.kp b21, fok_bad rfl g22 F22.kp b22, fok_bad rfl g23 F23.kp b23, fok_bad rfl g24 F24.kp b24, fok_bad rfl g25 F25.kp b25, fok_bad rfl g26 F26.kp b26, fok_bad rfl g27 F27.kp b27⟩
  | k + 1 => by
    have T := tb X G c base k
    have B := bl_of X G c
    have C : Cs ⟨K, w, cl⟩ mg := cs_of X G c
    obtain ⟨fd0, F0, g0, b0⟩ := k_is_whole X G c
    obtain ⟨fd1, F1, g1, b1⟩ := k_are_numbers X G c
    obtain ⟨fd2, F2, g2, b2⟩ := k_are_views X G c
    obtain ⟨fd3, F3, g3, b3⟩ := k_sizes_of X G c
    obtain ⟨fd4, F4, g4, b4⟩ := k_size_of X G c
    obtain ⟨fd5, F5, g5, b5⟩ := k_size_after X G c
    obtain ⟨fd6, F6, g6, b6⟩ := k_size_of_event X G c
    obtain ⟨fd7, F7, g7, b7⟩ := k_size_of_deed X G c
    obtain ⟨fd8, F8, g8, b8⟩ := k_good_deed X G c
    obtain ⟨fd9, F9, g9, b9⟩ := k_is_deed X G c
    obtain ⟨fd10, F10, g10, b10⟩ := k_need_minds X G c
    obtain ⟨fd11, F11, g11, b11⟩ := k_need_some X G c
    obtain ⟨fd12, F12, g12, b12⟩ := k_need_fact X G c
    obtain ⟨fd13, F13, g13, b13⟩ := k_need_inner X G c
    obtain ⟨fd14, F14, g14, b14⟩ := k_for_each X G c
    obtain ⟨fd15, F15, g15, b15⟩ := k_aloud X G c
    obtain ⟨fd16, F16, g16, b16⟩ := k_told_some X G c
    obtain ⟨fd17, F17, g17, b17⟩ := k_whisper X G c
    obtain ⟨fd18, F18, g18, b18⟩ := k_whispered X G c
    obtain ⟨fd19, F19, g19, b19⟩ := k_looked X G c
    obtain ⟨fd20, F20, g20, b20⟩ := k_lied X G c
    obtain ⟨fd21, F21, g21, b21⟩ := k_become X G c
    obtain ⟨fd22, F22, g22, b22⟩ := k__law_cell_at X G c
    obtain ⟨fd23, F23, g23, b23⟩ := k__law_mixed X G c
    obtain ⟨fd24, F24, g24, b24⟩ := k__law_draw X G c
    obtain ⟨fd25, F25, g25, b25⟩ := k__law_pick X G c
    obtain ⟨fd26, F26, g26, b26⟩ := k__law_plain X G c
    obtain ⟨fd27, F27, g27, b27⟩ := k_law X G c
    exact ⟨fok_of F0 sc_is_whole (by decide) g0 b0 rfl rfl (fun cdv A outer s H E hr tk hp => b_is_whole T B C cdv A outer s H E hr tk hp),
      fok_of F1 sc_are_numbers (by decide) g1 b1 rfl rfl (fun cdv A outer s H E hr tk hp => b_are_numbers T B C cdv A outer s H E hr tk hp),
      fok_of F2 sc_are_views (by decide) g2 b2 rfl rfl (fun cdv A outer s H E hr tk hp => b_are_views T B C cdv A outer s H E hr tk hp),
      fok_of F3 sc_sizes_of (by decide) g3 b3 rfl rfl (fun cdv A outer s H E hr tk hp => b_sizes_of T B C cdv A outer s H E hr tk hp),
      fok_of F4 sc_size_of (by decide) g4 b4 rfl rfl (fun cdv A outer s H E hr tk hp => b_size_of T B C cdv A outer s H E hr tk hp),
      fok_of F5 sc_size_after (by decide) g5 b5 rfl rfl (fun cdv A outer s H E hr tk hp => b_size_after T B C cdv A outer s H E hr tk hp),
      fok_of F6 sc_size_of_event (by decide) g6 b6 rfl rfl (fun cdv A outer s H E hr tk hp => b_size_of_event T B C cdv A outer s H E hr tk hp),
      fok_of F7 sc_size_of_deed (by decide) g7 b7 rfl rfl (fun cdv A outer s H E hr tk hp => b_size_of_deed T B C cdv A outer s H E hr tk hp),
      fok_of F8 sc_good_deed (by decide) g8 b8 rfl rfl (fun cdv A outer s H E hr tk hp => b_good_deed T B C cdv A outer s H E hr tk hp),
      fok_of F9 sc_is_deed (by decide) g9 b9 rfl rfl (fun cdv A outer s H E hr tk hp => b_is_deed T B C cdv A outer s H E hr tk hp),
      fok_of F10 sc_need_minds (by decide) g10 b10 rfl rfl (fun cdv A outer s H E hr tk hp => b_need_minds T B C cdv A outer s H E hr tk hp),
      fok_of F11 sc_need_some (by decide) g11 b11 rfl rfl (fun cdv A outer s H E hr tk hp => b_need_some T B C cdv A outer s H E hr tk hp),
      fok_of F12 sc_need_fact (by decide) g12 b12 rfl rfl (fun cdv A outer s H E hr tk hp => b_need_fact T B C cdv A outer s H E hr tk hp),
      fok_of F13 sc_need_inner (by decide) g13 b13 rfl rfl (fun cdv A outer s H E hr tk hp => b_need_inner T B C cdv A outer s H E hr tk hp),
      fok_of F14 sc_for_each (by decide) g14 b14 rfl rfl (fun cdv A outer s H E hr tk hp => b_for_each T B C cdv A outer s H E hr tk hp),
      fok_of F15 sc_aloud (by decide) g15 b15 rfl rfl (fun cdv A outer s H E hr tk hp => b_aloud T B C cdv A outer s H E hr tk hp),
      fok_of F16 sc_told_some (by decide) g16 b16 rfl rfl (fun cdv A outer s H E hr tk hp => b_told_some T B C cdv A outer s H E hr tk hp),
      fok_of F17 sc_whisper (by decide) g17 b17 rfl rfl (fun cdv A outer s H E hr tk hp => b_whisper T B C cdv A outer s H E hr tk hp),
      fok_of F18 sc_whispered (by decide) g18 b18 rfl rfl (fun cdv A outer s H E hr tk hp => b_whispered T B C cdv A outer s H E hr tk hp),
      fok_of F19 sc_looked (by decide) g19 b19 rfl rfl (fun cdv A outer s H E hr tk hp => b_looked T B C cdv A outer s H E hr tk hp),
      fok_of F20 sc_lied (by decide) g20 b20 rfl rfl (fun cdv A outer s H E hr tk hp => b_lied T B C cdv A outer s H E hr tk hp),
      fok_of F21 sc_become (by decide) g21 b21 rfl rfl (fun cdv A outer s H E hr tk hp => b_become T B C cdv A outer s H E hr tk hp),
      fok_of F22 sc__law_cell_at (by decide) g22 b22 rfl rfl (fun cdv A outer s H E hr tk hp => b__law_cell_at T B C cdv A outer s H E hr tk hp),
      fok_of F23 sc__law_mixed (by decide) g23 b23 rfl rfl (fun cdv A outer s H E hr tk hp => b__law_mixed T B C cdv A outer s H E hr tk hp),
      fok_of F24 sc__law_draw (by decide) g24 b24 rfl rfl (fun cdv A outer s H E hr tk hp => b__law_draw T B C cdv A outer s H E hr tk hp),
      fok_of F25 sc__law_pick (by decide) g25 b25 rfl rfl (fun cdv A outer s H E hr tk hp => b__law_pick T B C cdv A outer s H E hr tk hp),
      fok_of F26 sc__law_plain (by decide) g26 b26 rfl rfl (fun cdv A outer s H E hr tk hp => b__law_plain T B C cdv A outer s H E hr tk hp),
      fok_of F27 sc_law (by decide) g27 b27 rfl rfl (fun cdv A outer s H E hr tk hp => b_law T B C cdv A outer s H E hr tk hp)⟩
theorem facts {f : Addr} (X : K.In h) (G : h.Ns mainGlobals mg) (hfa : mg ("law" : Str) = some (.ref f)) (c : SaysM fn chk K) :
    ∃ fd : FuncData, (∀ (s : Shared) (v : Value), BindsTo s fd ⟨[v], []⟩ [("script", v)]) ∧ ∀ base : Heap, K.In base → base.Ns mainGlobals mg → FnOk P w K mg base (L2.CX P w) 23 f fd ["script"] (spF ⟨K, w, fun _ => 0⟩ 1 (Fs 23 i_law)) := by
  obtain ⟨fd, F, g, b⟩ := k_law X G c
  have e := hfa.symm.trans g
  cases e
  have bA := FunD.bindsA (ps := ["script"]) F fun _ _ _ _ _ _ us hl => match us, hl with | [_], _ => rfl
  refine ⟨fd, fun s v => bA s [v] rfl, fun base Xb Gb => ?_⟩
  have T : Tb (fun _ => 0) P w K mg base 22 (Fs 22) := tb X G c base 22
  refine F.ok sc_law (fun vs H Q E h => ?_) (fun cdv A outer s H vs Q E hr hh => ?_)
  · obtain ⟨G, m, st, as, rl, ra, hl, p⟩ := h
    rw [ra.length, hl]; rfl
  · exact ⟨_, b_law T (bl_of X G c) (cs_of X G c) cdv A outer s H E hr (takes_of rfl rfl rfl rfl) (passes_of rfl), fn_sound_aux (ps := ["script"]) (by decide) hh⟩
end
end Lw
open PySem PySem.W PySem.Calls PyProof.Rows
theorem PySem.Challenge.cw_mindsteps_k10_whole_usual_deeds_holds : PySem.Challenge.rw_mindsteps_k10_whole_usual_deeds.Holds := by
  w_on; o_law
  refine HandSHeadRun.head_any (r := OpenLaw.row PySem.Challenge.rw_mindsteps_k10_whole_usual_deeds) (q := view (OpenLaw.row PySem.Challenge.rw_mindsteps_k10_whole_usual_deeds).prog [42]) (H := Lw.hk) (ob := Lw.ob) (M := 3000) (loose := Lw.loose) (d := HandSHeadRun.topDef (OpenLaw.row PySem.Challenge.rw_mindsteps_k10_whole_usual_deeds).prog 42) (kwd := []) Lw.ob_eq
    (by kernel_rfl) (fun s => by kernel_rfl) Lw.run (by kernel_rfl) (by kernel_rfl) (by kernel_rfl) (by rfl) (by first | assumption | decide +kernel) (by decide +kernel) ⟨rfl, rfl, rfl, rfl, rfl, by decide +kernel⟩ ?hw ?hc
  case hw => w_witness2
  case hc =>
    refine Mi.walk_ofM (l := PySem.Challenge.rw_mindsteps_k10_whole_usual_deeds) (n := 63) (k := 23) (x := "script") (CX := fun w => L2.CX PySem.Challenge.rw_mindsteps_k10_whole_usual_deeds.prog w) rfl (by decide) (by kernel_rfl) ⟨rfl, by decide, by decide⟩ ?F ?X
    case X => exact fun _ _ _ _ _ ⟨_, _, _, _, _, _, _, _, _, _, _, _, z⟩ => z
    case F =>
      intro w mg fa h Y G hmg0
      obtain ⟨K, KX, c⟩ := Y
      have hmg : mg ("law" : PySem.Str) = some (.ref fa) := by
        have e : (HandSHeadRun.topDef (OpenLaw.row PySem.Challenge.rw_mindsteps_k10_whole_usual_deeds).prog 42).name = ("law" : PySem.Str) := by kernel_rfl
        rw [← e]
        exact hmg0
      obtain ⟨fd, hb, hF⟩ := Lw.facts (P := (PySem.Challenge.rw_mindsteps_k10_whole_usual_deeds).prog) (w := w) KX G hmg c
      refine ⟨K, fd, _, KX, hb, fun H a ns hl _ hS => ?_, hF⟩
      obtain ⟨st, e⟩ := Lw.law_true ns hl 0
      refine ⟨H, [], [], [.s ns], ⟨fun _ _ z => z, rfl, List.nodup_nil, fun _ z => absurd z List.not_mem_nil, fun _ _ _ z => (by cases z), fun _ _ _ z => (by cases z)⟩, .cons (.s hS) .nil, rfl, ?_⟩
      rw [e]
      intro x H' G' m' _ _ rx
      cases rx with
      | d rx => cases rx; rfl
end
