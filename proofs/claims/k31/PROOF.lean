import PyProof.Rows.All
import Wide.All
import OpenK.AllK
import Wide.FinOn
import HandS.ForMost
import HandS.ForExc
import KE.DataEq
import KE.KDictKeyed
import KE.KeyNested
import HandS.Lambda
import HandS.Style
import HandS.TupAny
import HandS.TupMul
import HandS.IsInst
import HandS.Zip
import HandS.SortInts
import HandS.Defaults
import HandS.ExcCtx
import HandS.HotCalls
import HandS.ExcInitHot
import PyProof.CollectIter
import HandS.Conv
import HandS.DictComp
import HandS.Strs
import HandS.SetFor
import HandS.SetBool
import HandS.Set
import KE.KStateDown
import HandS.Head0
import HandS.Head1
import HandS.Head2
import HandS.HeadEnd
import HandS.HeadHook1
import HandS.HeadHook2
import KE.GoesEnum
import PyProof.SeqIndex
import HandS.ExcIs
import HandS.ExcField
import HandS.TryMany
import KE.KExcIs
import HandS.HeadHook4
import KE.DataFind
import HandS.TupSets
import HandS.SortRule
import KE.KDictWalk
import HandS.Nested
import HandS.TryOnly
import HandS.EndTab
import HandS.MakeKwOnly
import HandS.Text
import HandS.FStr
import HandS.Steps
import HandS.CallSlots
import KE.LtData
import KE.KFmtOwn
import HandS.Codes
import PyProof.SliceSyntax
import PySem.Challenge.RW_mindsteps_k31_whole_case_texts
set_option Elab.async false
set_option linter.all false
section
set_option maxRecDepth 100000
set_option autoImplicit false
namespace Mi
open PySem PySem.Spec L2

/-! ### what the reader computes with -/
abbrev D := PyData
inductive Val where
  | d (x : D)
  | r (i : Nat)
  | s (ns : List Int)
  | a (p : Addr) (d : Option Addr)
  | c (j : Nat) (x : Val)
  | f (j : Nat)
inductive MO where
  | lst (xs : List D)
  | dK (ps : List (Int × D))
  | dN (ps : List (D × D))
  | dL (ps : List (D × D))
  | ins (c : Nat) (fs : List (Str × Val))
  | gone
abbrev Sto := List MO
structure Exn where
  cls : Nat
  arg : Option D
inductive R (α : Type) where
  | ok (a : α) (s : Sto)
  | exc (e : Exn) (s : Sto)
  | bad
def R.bind {α β : Type} (x : R α) (f : α → Sto → R β) : R β := match x with
  | .ok a s => f a s
  | .exc e s => .exc e s
  | .bad => .bad
@[simp] theorem R.bind_ok {α β : Type} (a : α) (s : Sto) (f : α → Sto → R β) : (R.ok a s).bind f = f a s := rfl
@[simp] theorem R.bind_exc {α β : Type} (e : Exn) (s : Sto) (f : α → Sto → R β) : (R.exc e s : R α).bind f = .exc e s := rfl
@[simp] theorem R.bind_bad {α β : Type} (f : α → Sto → R β) : (R.bad : R α).bind f = .bad := rfl
abbrev Ev := List (Option Val)
abbrev EE := Ev → Sto → R Val
abbrev ET := Ev → Sto → R Bool
abbrev EA := Ev → Sto → R (List Val)
inductive Fl where
  | nx (env : Ev)
  | rt (v : Val)
  | bk (env : Ev)
  | ct (env : Ev)
  | ex (e : Exn) (env : Ev)
abbrev ES := Ev → Sto → R Fl
/-- an expression within a statement -/
def R.bindS {α : Type} (x : R α) (env : Ev) (f : α → Sto → R Fl) : R Fl := match x with
  | .ok a s => f a s
  | .exc e s => .ok (.ex e env) s
  | .bad => .bad

/-! ### how it stands in the heap -/
structure RC where
  K : PySem.W.Frag
  w : World
  cls : Nat → Addr
/-- the key that a datum is -/
def nk : D → Option NestedKey
  | .none => some .none
  | .int i => some (.num i)
  | .str x => some (.text x)
  | .tuple xs => (nks xs).map .tup
  | _ => none
where nks : List D → Option (List NestedKey)
  | [] => some []
  | x :: xs => match nk x, nks xs with
    | some k, some ks => some (k :: ks)
    | _, _ => none
/-- a dict of int keys -/
def kz (ps : List (Int × D)) (vs : List V) : List (Key × V) := List.zipWith (fun p v => ((Sum.inl p.1 : Key), v)) ps vs
/-- a dict of nested keys, by its entries -/
def DictN (w : World) (a : Addr) (xs : List (NestedKey × Addr × Value)) : HO := .ext fun h => ∃ o es ep, h.get? a = some o ∧ o.ExactDict ∧ o.data = .dict es ep ∧ es.toList = xs.map (fun x => (⟨x.1.hash w, .ref x.2.1, x.2.2⟩ : DictEntry)) ∧ (xs.map (·.1)).Nodup
mutual
inductive Rep (C : RC) (G : Hp) : V → D → Prop
  | non : Rep C G .non .none
  | bl (b : Bool) : Rep C G (.bl b) (.bool b)
  | int (i : Int) : Rep C G (.int i) (.int i)
  | str (x : Str) : Rep C G (.str x) (.str x)
  | lst {a : Addr} {xs : List V} {ds : List D} : G a = some (.lst xs) → RepAll C G xs ds → Rep C G (.ref a) (.list ds)
  | tup {a : Addr} {xs : List V} {ds : List D} : SqT C.K G a xs → RepAll C G xs ds → Rep C G (.ref a) (.tuple ds)
  | dK {a : Addr} {o : Obj} {ps : List (Int × D)} {vs : List V} {ds : List D} : G a = some (.frz o (.dK (kz ps vs))) → ps.map (·.2) = ds → RepAll C G vs ds → Rep C G (.ref a) (.dict (ps.map fun p => (.int p.1, p.2)))
  | dN {a : Addr} {o : Obj} {ps : List (D × D)} {xs : List (NestedKey × Addr × Value)} : G a = some (.frz o (.frz o (DictN C.w a xs))) → (a == sysModules) = false → RepN C G ps xs → Rep C G (.ref a) (.dict ((.none, .none) :: ps))
inductive RepN (C : RC) (G : Hp) : List (D × D) → List (NestedKey × Addr × Value) → Prop
  | nil : RepN C G [] []
  | cons {p : D × D} {ps : List (D × D)} {k : NestedKey} {b : Addr} {v : V} {u : Value} {xs : List (NestedKey × Addr × Value)} : nk p.1 = some k → k.depth ≤ 8 → Rep C G (.ref b) p.1 → RelV v u → Rep C G v p.2 → RepN C G ps xs → RepN C G (p :: ps) ((k, b, u) :: xs)
inductive RepAll (C : RC) (G : Hp) : List V → List D → Prop
  | nil : RepAll C G [] []
  | cons {v : V} {vs : List V} {d : D} {ds : List D} : Rep C G v d → RepAll C G vs ds → RepAll C G (v :: vs) (d :: ds)
end
def Sub (G G' : Hp) : Prop := ∀ a o, G a = some o → G' a = some o
theorem Sub.refl (G : Hp) : Sub G G := fun _ _ h => h
theorem Sub.trans {A B E : Hp} (a : Sub A B) (b : Sub B E) : Sub A E := fun c o h => b c o (a c o h)
theorem Rd.sub {G G' : Hp} (s : Sub G G') {a : Addr} {u : HO} (h : Rd G a u) : Rd G' a u := by
  rcases h with h | ⟨o, h⟩
  · exact .inl (s _ _ h)
  · exact .inr ⟨o, s _ _ h⟩
theorem SqL.sub {K : PySem.W.Frag} {G G' : Hp} (s : Sub G G') {a : Addr} {xs : List V} (h : SqL K G a xs) : SqL K G' a xs := by
  rcases h with h | h
  · exact .inl (Rd.sub s h)
  · exact .inr h
theorem SqT.sub {K : PySem.W.Frag} {G G' : Hp} (s : Sub G G') {a : Addr} {xs : List V} (h : SqT K G a xs) : SqT K G' a xs := by
  rcases h with h | h
  · exact .inl (Rd.sub s h)
  · exact .inr h
mutual
theorem Rep.sub {C : RC} {G G' : Hp} (s : Sub G G') {d : D} {v : V} (h : Rep C G v d) : Rep C G' v d := match h with
  | .non => .non
  | .bl b => .bl b
  | .int b => .int b
  | .str b => .str b
  | .lst q r => .lst (s _ _ q) (RepAll.sub s r)
  | .tup q r => .tup (SqT.sub s q) (RepAll.sub s r)
  | .dK q e r => .dK (s _ _ q) e (RepAll.sub s r)
  | .dN q e r => .dN (s _ _ q) e (RepN.sub s r)
theorem RepN.sub {C : RC} {G G' : Hp} (s : Sub G G') {ps : List (D × D)} {xs : List (NestedKey × Addr × Value)} (h : RepN C G ps xs) : RepN C G' ps xs := match h with
  | .nil => .nil
  | .cons a b c d e r => .cons a b (Rep.sub s c) d (Rep.sub s e) (RepN.sub s r)
theorem RepAll.sub {C : RC} {G G' : Hp} (s : Sub G G') {ds : List D} {vs : List V} (h : RepAll C G vs ds) : RepAll C G' vs ds := match h with
  | .nil => .nil
  | .cons q r => .cons (Rep.sub s q) (RepAll.sub s r)
end
theorem RepAll.length {C : RC} {G : Hp} : ∀ {ds : List D} {vs : List V}, RepAll C G vs ds → vs.length = ds.length
  | [], _, h => by cases h; rfl
  | _ :: _, _, h => by
    cases h with
    | cons q r => simp [RepAll.length r]
theorem RepAll.get {C : RC} {G : Hp} : ∀ {ds : List D} {vs : List V} {i : Nat} {d : D}, RepAll C G vs ds → ds[i]? = some d → ∃ v, vs[i]? = some v ∧ Rep C G v d
  | [], _, _, _, h, e => by simp at e
  | _ :: _, _, 0, _, h, e => by
    cases h with
    | cons q r => simp at e; subst e; exact ⟨_, rfl, q⟩
  | _ :: _, _, i + 1, _, h, e => by
    cases h with
    | cons q r => simpa using RepAll.get r (by simpa using e)
theorem RepAll.append {C : RC} {G : Hp} : ∀ {ds es : List D} {vs us : List V}, RepAll C G vs ds → RepAll C G us es → RepAll C G (vs ++ us) (ds ++ es)
  | [], _, _, _, h, k => by cases h; exact k
  | _ :: _, _, _, _, h, k => by
    cases h with
    | cons q r => exact .cons q (RepAll.append r k)
theorem RepAll.take {C : RC} {G : Hp} : ∀ (n : Nat) {ds : List D} {vs : List V}, RepAll C G vs ds → RepAll C G (vs.take n) (ds.take n)
  | 0, _, _, h => by simpa using RepAll.nil
  | n + 1, [], _, h => by cases h; exact .nil
  | n + 1, _ :: _, _, h => by
    cases h with
    | cons q r => exact .cons q (RepAll.take n r)
theorem RepAll.drop {C : RC} {G : Hp} : ∀ (n : Nat) {ds : List D} {vs : List V}, RepAll C G vs ds → RepAll C G (vs.drop n) (ds.drop n)
  | 0, _, _, h => h
  | n + 1, [], _, h => by cases h; exact .nil
  | n + 1, _ :: _, _, h => by
    cases h with
    | cons q r => exact RepAll.drop n r
theorem RepAll.set {C : RC} {G : Hp} {d : D} {v : V} (k : Rep C G v d) : ∀ (n : Nat) {ds : List D} {vs : List V}, RepAll C G vs ds → RepAll C G (vs.set n v) (ds.set n d)
  | _, [], _, h => by cases h; exact .nil
  | 0, _ :: _, _, h => by
    cases h with
    | cons q r => exact .cons k r
  | n + 1, _ :: _, _, h => by
    cases h with
    | cons q r => exact .cons q (RepAll.set k n r)
mutual
theorem Rep.dp {C : RC} {G H : Hp} (s : Sub G H) : ∀ {d : D} {v : V}, d.plain = true → Rep C G v d → Dp C.K H v d
  | .none, _, _, h => by cases h; exact .non
  | .bool b, _, _, h => by cases h; exact .bl _
  | .int b, _, _, h => by cases h; exact .int _
  | .str b, _, _, h => by cases h; exact .str _
  | .list ds, _, p, h => by
    cases h with
    | lst q r => exact .lst (SqL.of (s _ _ q)) (RepAll.dp s p r)
  | .tuple ds, _, p, h => by
    cases h with
    | tup q r => exact .tup (SqT.sub s q) (RepAll.dp s p r)
  | .dict _, _, p, h => by cases p
theorem RepAll.dp {C : RC} {G H : Hp} (s : Sub G H) : ∀ {ds : List D} {vs : List V}, PyData.plainAll ds = true → RepAll C G vs ds → DpAll C.K H vs ds
  | [], _, _, h => by cases h; exact .nil
  | _ :: _, _, p, h => by
    cases h with
    | cons q r => exact .cons (Rep.dp s (Bool.and_eq_true_iff.mp p).1 q) (RepAll.dp s (Bool.and_eq_true_iff.mp p).2 r)
end
/-! ### lambdas: which there are, their tables -/
structure Lam where
  params : Arguments
  body : Expr
  scope : Scope
def lamOf : Expr → Option Lam
  | .Lambda a b s _ => some ⟨a, b, s⟩
  | _ => none
def lamsC : Expr → List Lam
  | .Call _ as _ _ => as.filterMap lamOf
  | .UnaryOp _ (.Call _ as _ _) _ => as.filterMap lamOf
  | _ => []
def lamsS : Stmt → List Lam
  | .If t _ _ _ => lamsC t
  | .Return (some e) _ => lamsC e
  | _ => []
/-- by number: 0 and 1 is_good's, 2 plan's, 3 broken's -/
def lamAt : Nat → List Stmt → Option Lam
  | 1, b => (b.flatMap lamsS)[1]?
  | _, b => (b.flatMap lamsS)[0]?
def lamT : Nat → Nat
  | 0 => 0
  | 1 => 0
  | 2 => 1
  | _ => 2
def tabQ : Nat → Str
  | 0 => "is_good.<locals>.<lambda>"
  | 1 => "plan.<locals>.<lambda>"
  | _ => "broken.<locals>.<lambda>"
def lamV : Nat → Str
  | 0 => "found"
  | 1 => "found"
  | 2 => "goal"
  | _ => "saying"
/-- the object of the lambda j, its cell at cc, its code at code -/
def LamO (C : RC) (j : Nat) (of : Obj) (cc code : Addr) : Prop := ∃ (o : Obj) (fd : FuncData) (b : List Stmt) (L : Lam) (pm ctv : Value), C.K.lookup (C.cls (110 + j)) = some o ∧ o.data = .func fd ∧ fd.body = .stmts b ∧ lamAt j b = some L ∧ of = PySem.W.kla_obj "<lambda>" (tabQ (lamT j)) L.params L.body L.scope [(lamV j, cc)] pm code ctv
def CloG (C : RC) (G : Hp) (f : Addr) (j : Nat) (v : V) : Prop := ∃ (of oc : Obj) (cc code : Addr) (u : Value), G f = some (.frz of (.own 0)) ∧ G cc = some (.frz oc (.own 0)) ∧ oc.data = .cell (some u) ∧ RelV v u ∧ G code = some (LamX.CodeO code (tabQ (lamT j))) ∧ LamO C j of cc code ∧ cc ≠ f
theorem CloG.sub {C : RC} {G G' : Hp} {f : Addr} {j : Nat} {v : V} (s : Sub G G') (h : CloG C G f j v) : CloG C G' f j v :=
  let ⟨of, oc, cc, code, u, h1, h2, h3, h4, h5, h6, h7⟩ := h
  ⟨of, oc, cc, code, u, s _ _ h1, s _ _ h2, h3, h4, s _ _ h5, h6, h7⟩
inductive RepV (C : RC) (G : Hp) (m : List Addr) : V → Val → Prop
  | d {v : V} {x : D} : Rep C G v x → RepV C G m v (.d x)
  | r {i : Nat} {a : Addr} : m[i]? = some a → RepV C G m (.ref a) (.r i)
  | s {a : Addr} {ns : List Int} : SqL C.K G a (ns.map V.int) → RepV C G m (.ref a) (.s ns)
  | a {p : Addr} {d : Option Addr} : (∀ q, d = some q → ∃ fs, G q = some (.xd fs)) → RepV C G m (.ref p) (.a p d)
  | c {f : Addr} {j : Nat} {v : V} {x : Val} : CloG C G f j v → RepV C G m v x → RepV C G m (.ref f) (.c j x)
  | f {j : Nat} : RepV C G m (.ref (C.cls (200 + j))) (.f j)
inductive RepVs (C : RC) (G : Hp) (m : List Addr) : List V → List Val → Prop
  | nil : RepVs C G m [] []
  | cons {v : V} {vs : List V} {x : Val} {xs : List Val} : RepV C G m v x → RepVs C G m vs xs → RepVs C G m (v :: vs) (x :: xs)
def MRep (C : RC) (G : Hp) (m : List Addr) (H : Hp) (a : Addr) : MO → Prop
  | .lst xs => ∃ vs, H a = some (.lst vs) ∧ RepAll C G vs xs
  | .dK ps => ∃ vs, H a = some (.dK (kz ps vs)) ∧ RepAll C G vs (ps.map (·.2))
  | .dN ps => ∃ xs, H a = some (DictN C.w a xs) ∧ (a == sysModules) = false ∧ RepN C G ps xs
  | .dL ps => ∃ od xs, G a = some (.frz od (DictN C.w a xs)) ∧ (a == sysModules) = false ∧ RepN C G ps xs
  | .ins c fs => ∃ dx vs, H a = some (.ins (C.cls c) dx vs) ∧ vs.map (·.1) = fs.map (·.1) ∧ RepVs C G m (vs.map (·.2)) (fs.map (·.2))
  | .gone => True
def isTbl : HO → Bool
  | .tbl _ => true
  | _ => false
/-- the tables of code objects -/
def TabsOk (C : RC) (G : Hp) (m : List Addr) (H : Hp) : Prop := ∀ j, j < C.cls 99 → ∃ ps : Array Value, H (C.cls (100 + j)) = some (.tbl ps) ∧ C.cls (100 + j) ∉ m ∧ G (C.cls (100 + j)) = none ∧ TriplesOk ps.toList ∧ ∀ (pos : Pos) (cv : Value), codeAmong pos ps.toList = some cv → ∃ c, cv = .ref c ∧ G c = some (LamX.CodeO c (tabQ j))
/-- of these nothing is written -/
def isFree : MO → Bool
  | .gone => true
  | .dL _ => true
  | _ => false
structure Rl (C : RC) (G : Hp) (m : List Addr) (H : Hp) (st : Sto) : Prop where
  sub : Sub G H
  len : m.length = st.length
  nd : m.Nodup
  liv : ∀ a ∈ m, H a ≠ none
  out : ∀ (i : Nat) (a : Addr) (o : MO), m[i]? = some a → st[i]? = some o → isFree o = false → G a = none
  obj : ∀ (i : Nat) (o : MO) (a : Addr), st[i]? = some o → m[i]? = some a → MRep C G m H a o
  tab : TabsOk C G m H
  clo : ∀ a ∈ m, ∀ o z, G a ≠ some (.frz o (.own z))
/-- from one state to a later one: what is frozen stays, the mutable ones keep their numbers, all that is neither stays -/
structure Ext (G : Hp) (m : List Addr) (H : Hp) (G' : Hp) (m' : List Addr) (H' : Hp) : Prop where
  sub : Sub G G'
  pre : ∀ (i : Nat) (a : Addr), m[i]? = some a → m'[i]? = some a
  frm : ∀ (a : Addr) (o : HO), H a = some o → a ∉ m → (nt : isTbl o = false := by rfl) → H' a = some o
  new : ∀ a ∈ m', a ∈ m ∨ H a = none
  gn : ∀ a, G' a ≠ none → G a ≠ none ∨ a ∈ m ∨ H a = none
  al : ∀ a, H a ≠ none → H' a ≠ none
theorem Ext.refl (G : Hp) (m : List Addr) (H : Hp) : Ext G m H G m H := ⟨Sub.refl G, fun _ _ h => h, fun _ _ h _ _ => h, fun _ h => .inl h, fun _ h => .inl h, fun _ h => h⟩
theorem Ext.trans {A B E : Hp} {m n k : List Addr} {H H1 H2 : Hp} (a : Ext A m H B n H1) (b : Ext B n H1 E k H2) : Ext A m H E k H2 := by
  have nn : ∀ c, H1 c = none → H c = none := fun c z => by
    cases q : H c with
    | none => rfl
    | some o => exact absurd z (a.al c (by rw [q]; simp))
  refine ⟨a.sub.trans b.sub, fun i x h => b.pre i x (a.pre i x h), fun c o h hc nt => b.frm c o (a.frm c o h hc nt) (fun hn => ?_) nt, fun c hc => ?_, fun c hc => ?_, fun c hc => b.al c (a.al c hc)⟩
  · rcases a.new c hn with z | z
    · exact hc z
    · rw [h] at z; cases z
  · rcases b.new c hc with z | z
    · exact a.new c z
    · exact .inr (nn c z)
  · rcases b.gn c hc with z | z | z
    · exact a.gn c z
    · rcases a.new c z with z | z
      · exact .inr (.inl z)
      · exact .inr (.inr z)
    · exact .inr (.inr (nn c z))
/-- the tables stay -/
theorem TabsOk.step {C : RC} {G G' : Hp} {m m' : List Addr} {H H' : Hp} (t : TabsOk C G m H) (e : Ext G m H G' m' H') (k : ∀ P ps, H P = some (.tbl ps) → P ∉ m → H' P = some (.tbl ps)) : TabsOk C G' m' H' := fun j hj => by
  obtain ⟨ps, h1, h2, h3, h4, h5⟩ := t j hj
  refine ⟨ps, k _ _ h1 h2, fun z => ?_, ?_, h4, fun pos cv hc => ?_⟩
  · rcases e.new _ z with q | q
    · exact h2 q
    · rw [h1] at q; cases q
  · cases q : G' (C.cls (100 + j)) with
    | none => rfl
    | some o =>
      rcases e.gn _ (by rw [q]; simp) with z | z | z
      · exact absurd h3 z
      · exact absurd z h2
      · rw [h1] at z; cases z
  · obtain ⟨c, e1, e2⟩ := h5 pos cv hc
    exact ⟨c, e1, e.sub _ _ e2⟩
theorem RepV.ext {C : RC} {G G' : Hp} {m m' : List Addr} {H H' : Hp} (e : Ext G m H G' m' H') {v : V} {x : Val} (h : RepV C G m v x) : RepV C G' m' v x := by
  induction h with
  | d h => exact .d (h.sub e.sub)
  | r h => exact .r (e.pre _ _ h)
  | s h => exact .s (SqL.sub e.sub h)
  | a h => exact .a fun q hq => let ⟨fs, z⟩ := h q hq; ⟨fs, e.sub _ _ z⟩
  | c h _ ih => exact .c (h.sub e.sub) ih
  | f => exact .f
theorem RepVs.ext {C : RC} {G G' : Hp} {m m' : List Addr} {H H' : Hp} (e : Ext G m H G' m' H') : ∀ {vs : List V} {xs : List Val}, RepVs C G m vs xs → RepVs C G' m' vs xs
  | _, _, .nil => .nil
  | _, _, .cons h r => .cons (h.ext e) (RepVs.ext e r)
theorem RepVs.length {C : RC} {G : Hp} {m : List Addr} : ∀ {vs : List V} {xs : List Val}, RepVs C G m vs xs → vs.length = xs.length
  | _, _, .nil => rfl
  | _, _, .cons h r => by simp [RepVs.length r]
theorem RepVs.get {C : RC} {G : Hp} {m : List Addr} : ∀ {vs : List V} {xs : List Val} {i : Nat} {x : Val}, RepVs C G m vs xs → xs[i]? = some x → ∃ v, vs[i]? = some v ∧ RepV C G m v x
  | _, _, _, _, .nil, e => by simp at e
  | _, _, 0, _, .cons h r, e => by simp at e; subst e; exact ⟨_, rfl, h⟩
  | _, _, i + 1, _, .cons h r, e => by simpa using RepVs.get r (by simpa using e)
def EnvR (C : RC) (G : Hp) (m : List Addr) (σ : St) (env : Ev) : Prop := σ.length = env.length ∧ ∀ (i : Nat) (v : Val), env[i]? = some (some v) → ∃ x, σ[i]? = some (some x) ∧ RepV C G m x v
theorem EnvR.ext {C : RC} {G G' : Hp} {m m' : List Addr} {H H' : Hp} (e : Ext G m H G' m' H') {σ : St} {env : Ev} (h : EnvR C G m σ env) : EnvR C G' m' σ env :=
  ⟨h.1, fun i v q => let ⟨x, a, b⟩ := h.2 i v q; ⟨x, a, b.ext e⟩⟩
theorem EnvR.set {C : RC} {G : Hp} {m : List Addr} {σ : St} {env : Ev} {x : V} {v : Val} (h : EnvR C G m σ env) (k : RepV C G m x v) (i : Nat) : EnvR C G m (σ.set i (some x)) (env.set i (some v)) := by
  refine ⟨by simpa using h.1, fun j u q => ?_⟩
  by_cases e : i = j
  · subst e
    by_cases hl : i < env.length
    · rw [List.getElem?_set_self hl] at q
      cases q
      exact ⟨x, List.getElem?_set_self (by rw [h.1]; exact hl), k⟩
    · rw [List.getElem?_eq_none (by simpa using hl)] at q
      cases q
  · rw [List.getElem?_set_ne e] at q ⊢
    exact h.2 j u q

/-! ### new things -/
section
variable {C : RC} {G : Hp} {m : List Addr} {H : Hp} {st : Sto}
theorem Sub.upd {G : Hp} {p : Addr} {o : HO} (h : G p = none) : Sub G (upd G p o) := fun a u e => by
  by_cases q : a = p
  · subst q; rw [h] at e; cases e
  · rw [upd_ne q]; exact e
theorem sub_upd {G H : Hp} {p : Addr} {o : HO} (s : Sub G H) : Sub (upd G p o) (upd H p o) := fun a u e => by
  by_cases q : a = p
  · subst q; rw [upd_same] at e ⊢; exact e
  · rw [upd_ne q] at e ⊢; exact s _ _ e
theorem upd_al {H : Hp} {p : Addr} {o : HO} (a : Addr) (h : H a ≠ none) : upd H p o a ≠ none := by
  by_cases q : a = p
  · subst q; rw [upd_same]; simp
  · rw [upd_ne q]; exact h
theorem Rl.freeG (r : Rl C G m H st) {p : Addr} (h : H p = none) : G p = none := by
  cases e : G p with
  | none => rfl
  | some o => rw [r.sub _ _ e] at h; cases h
theorem Rl.notin (r : Rl C G m H st) {p : Addr} (h : H p = none) : p ∉ m := fun k => r.liv p k h
theorem MRep.mono {G' H' H1 H2 : Hp} {m' : List Addr} (e : Ext G m H1 G' m' H2) {a : Addr} {o : MO} (h : MRep C G m H a o) (k : ∀ u, H a = some u → H' a = some u) : MRep C G' m' H' a o := by
  cases o with
  | lst xs => obtain ⟨vs, q, r⟩ := h; exact ⟨vs, k _ q, r.sub e.sub⟩
  | dK ps => obtain ⟨vs, q, r⟩ := h; exact ⟨vs, k _ q, r.sub e.sub⟩
  | dN ps => obtain ⟨xs, q, z, r⟩ := h; exact ⟨xs, k _ q, z, r.sub e.sub⟩
  | dL ps => obtain ⟨od, xs, q, z, r⟩ := h; exact ⟨od, xs, e.sub _ _ q, z, r.sub e.sub⟩
  | ins c fs => obtain ⟨dx, vs, q, n, r⟩ := h; exact ⟨dx, vs, k _ q, n, r.ext e⟩
  | gone => trivial
/-- a frozen object is laid -/
theorem Rl.laid (r : Rl C G m H st) {p : Addr} (h : H p = none) (o : HO) : Rl C (upd G p o) m (upd H p o) st ∧ Ext G m H (upd G p o) m (upd H p o) := by
  have hg := r.freeG h
  have hm := r.notin h
  have ex : Ext G m H (upd G p o) m (upd H p o) := ⟨Sub.upd hg, fun _ _ z => z, fun a u z _ _ => by rw [upd_ne (ne_of_none z h)]; exact z, fun _ z => .inl z, fun a z => by
    by_cases q : a = p
    · subst q; exact .inr (.inr h)
    · rw [upd_ne q] at z; exact .inl z, upd_al⟩
  have ne : ∀ a ∈ m, a ≠ p := fun a ha e => hm (e ▸ ha)
  refine ⟨⟨sub_upd r.sub, r.len, r.nd, fun a ha => by rw [upd_ne (ne a ha)]; exact r.liv a ha, fun i a u e1 e2 e3 => ?_, fun i u a e1 e2 => ?_, r.tab.step ex fun P ps z _ => by rw [upd_ne (ne_of_none z h)]; exact z, fun a ha o' z => by rw [upd_ne (ne a ha)]; exact r.clo a ha o' z⟩, ex⟩
  · rw [upd_ne (ne a (List.mem_of_getElem? e1))]; exact r.out i a u e1 e2 e3
  · refine (r.obj i u a e1 e2).mono ex fun z q => ?_
    rw [upd_ne (ne a (List.mem_of_getElem? e2))]; exact q
/-- a mutable one -/
theorem Rl.alloc (r : Rl C G m H st) {p : Addr} (h : H p = none) (o : HO) (mo : MO) (k : MRep C G (m ++ [p]) (upd H p o) p mo) : Rl C G (m ++ [p]) (upd H p o) (st ++ [mo]) ∧ Ext G m H G (m ++ [p]) (upd H p o) := by
  have hg := r.freeG h
  have hm := r.notin h
  have pre : ∀ (i : Nat) (a : Addr), m[i]? = some a → (m ++ [p])[i]? = some a := fun i a e => by
    rw [List.getElem?_append_left (List.getElem?_eq_some_iff.mp e).1]; exact e
  have ex : Ext G m H G (m ++ [p]) (upd H p o) := ⟨Sub.refl G, pre, fun a u z _ _ => by rw [upd_ne (ne_of_none z h)]; exact z, fun a z => (List.mem_append.mp z).imp id fun q => by simp at q; subst q; exact h, fun _ z => .inl z, upd_al⟩
  have ne : ∀ a ∈ m, a ≠ p := fun a ha e => hm (e ▸ ha)
  have cut : ∀ (i : Nat) (a : Addr) (u : MO), (m ++ [p])[i]? = some a → (st ++ [mo])[i]? = some u → (m[i]? = some a ∧ st[i]? = some u) ∨ (a = p ∧ u = mo) := fun i a u e1 e2 => by
    by_cases hi : i < m.length
    · rw [List.getElem?_append_left hi] at e1
      rw [List.getElem?_append_left (by rw [← r.len]; exact hi)] at e2
      exact .inl ⟨e1, e2⟩
    · have h1 : i < (m ++ [p]).length := (List.getElem?_eq_some_iff.mp e1).1
      have h2 : i = m.length := by simp at h1; omega
      subst h2
      rw [List.getElem?_append_right (Nat.le_refl _)] at e1
      rw [r.len, List.getElem?_append_right (Nat.le_refl _)] at e2
      simp at e1 e2
      exact .inr ⟨e1.symm, e2.symm⟩
  refine ⟨⟨fun a u e => ?_, by simp [r.len], ?_, fun a ha => ?_, fun i a u e1 e2 e3 => ?_, fun i u a e1 e2 => ?_, r.tab.step ex fun P ps z _ => by rw [upd_ne (ne_of_none z h)]; exact z, fun a ha o' z => (List.mem_append.mp ha).elim (fun q => r.clo a q o' z) fun q => by simp at q; rw [q, hg]; simp⟩, ex⟩
  · rw [upd_ne (fun z => by subst z; rw [hg] at e; cases e)]; exact r.sub _ _ e
  · exact List.nodup_append.mpr ⟨r.nd, by simp, fun a ha b hb => by simp at hb; subst hb; exact ne a ha⟩
  · rcases List.mem_append.mp ha with q | q
    · rw [upd_ne (ne a q)]; exact r.liv a q
    · simp at q; subst q; rw [upd_same]; simp
  · rcases cut i a u e1 e2 with ⟨z1, z2⟩ | ⟨z1, z2⟩
    · exact r.out i a u z1 z2 e3
    · subst z1; exact hg
  · rcases cut i a u e2 e1 with ⟨z1, z2⟩ | ⟨z1, z2⟩
    · exact (r.obj i u a z2 z1).mono ex fun z q => by rw [upd_ne (ne a (List.mem_of_getElem? z1))]; exact q
    · subst z1; subst z2; exact k
theorem nodup_get {l : List Addr} (h : l.Nodup) {i j : Nat} {a : Addr} (e1 : l[i]? = some a) (e2 : l[j]? = some a) : i = j := by
  obtain ⟨h1, q1⟩ := List.getElem?_eq_some_iff.mp e1
  obtain ⟨h2, q2⟩ := List.getElem?_eq_some_iff.mp e2
  exact (List.getElem_inj h).mp (q1.trans q2.symm)
/-- a mutable object is written -/
theorem Rl.write (r : Rl C G m H st) {i : Nat} {a : Addr} {u : MO} (e1 : m[i]? = some a) (e2 : st[i]? = some u) (hu : isFree u = false) (o : HO) (mo : MO) (k : MRep C G m (upd H a o) a mo) : Rl C G m (upd H a o) (st.set i mo) ∧ Ext G m H G m (upd H a o) := by
  have hg := r.out i a u e1 e2 hu
  have hi : i < st.length := (List.getElem?_eq_some_iff.mp e2).1
  have cut : ∀ (j : Nat) (b : Addr) (x : MO), m[j]? = some b → (st.set i mo)[j]? = some x → (j = i ∧ b = a ∧ x = mo) ∨ (b ≠ a ∧ st[j]? = some x) := fun j b x q1 q2 => by
    by_cases hj : j = i
    · subst hj
      rw [e1] at q1; cases q1
      rw [List.getElem?_set_self hi] at q2; cases q2
      exact .inl ⟨rfl, rfl, rfl⟩
    · rw [List.getElem?_set_ne (Ne.symm hj)] at q2
      refine .inr ⟨fun z => ?_, q2⟩
      subst z
      exact hj (nodup_get r.nd q1 e1)
  have ex : Ext G m H G m (upd H a o) := ⟨Sub.refl G, fun _ _ z => z, fun b u z hb _ => by rw [upd_ne (fun q => hb (by rw [q]; exact List.mem_of_getElem? e1))]; exact z, fun _ z => .inl z, fun _ z => .inl z, upd_al⟩
  refine ⟨⟨fun b x e => ?_, by simp [r.len], r.nd, fun b hb => ?_, fun j b x q1 q2 q3 => ?_, fun j x b q1 q2 => ?_, r.tab.step ex fun P ps z hb => by rw [upd_ne (fun q => hb (by rw [q]; exact List.mem_of_getElem? e1))]; exact z, r.clo⟩, ex⟩
  · rw [upd_ne (fun z => by subst z; rw [hg] at e; cases e)]; exact r.sub _ _ e
  · by_cases z : b = a
    · subst z; rw [upd_same]; simp
    · rw [upd_ne z]; exact r.liv b hb
  · rcases cut j b x q1 q2 with ⟨z1, z2, z3⟩ | ⟨z1, z2⟩
    · rw [z2]; exact hg
    · exact r.out j b x q1 z2 q3
  · rcases cut j b x q2 q1 with ⟨z1, z2, z3⟩ | ⟨z1, z2⟩
    · rw [z2, z3]; exact k
    · exact (r.obj j x b z2 q2).mono (Ext.refl G m H) fun z q => by rw [upd_ne z1]; exact q
/-- a mutable list is frozen -/
theorem Rl.freeze (r : Rl C G m H st) {i : Nat} {a : Addr} {xs : List D} (e1 : m[i]? = some a) (e2 : st[i]? = some (.lst xs)) :
    ∃ G', Rl C G' m H (st.set i .gone) ∧ Ext G m H G' m H ∧ Rep C G' (.ref a) (.list xs) := by
  obtain ⟨vs, hv, rv⟩ := r.obj i _ a e2 e1
  have hg := r.out i a _ e1 e2 rfl
  have ex : Ext G m H (upd G a (.lst vs)) m H := ⟨Sub.upd hg, fun _ _ z => z, fun _ _ z _ _ => z, fun _ z => .inl z, fun b z => by
    by_cases q : b = a
    · subst q; exact .inr (.inl (List.mem_of_getElem? e1))
    · rw [upd_ne q] at z; exact .inl z, fun _ z => z⟩
  have hi : i < st.length := (List.getElem?_eq_some_iff.mp e2).1
  have cut : ∀ (j : Nat) (b : Addr) (x : MO), m[j]? = some b → (st.set i .gone)[j]? = some x → (j = i ∧ b = a ∧ x = .gone) ∨ (b ≠ a ∧ st[j]? = some x) := fun j b x q1 q2 => by
    by_cases hj : j = i
    · subst hj
      rw [e1] at q1; cases q1
      rw [List.getElem?_set_self hi] at q2; cases q2
      exact .inl ⟨rfl, rfl, rfl⟩
    · rw [List.getElem?_set_ne (Ne.symm hj)] at q2
      refine .inr ⟨fun z => ?_, q2⟩
      subst z
      exact hj (nodup_get r.nd q1 e1)
  refine ⟨upd G a (.lst vs), ⟨fun b x e => ?_, by simp [r.len], r.nd, r.liv, fun j b x q1 q2 q3 => ?_, fun j x b q1 q2 => ?_, r.tab.step ex fun _ _ z _ => z, fun b hb o' z => by
    by_cases q : b = a
    · subst q; rw [upd_same]; simp
    · rw [upd_ne q]; exact r.clo b hb o' z⟩, ex, .lst upd_same (rv.sub ex.sub)⟩
  · by_cases z : b = a
    · subst z; rw [upd_same] at e; cases e; exact hv
    · rw [upd_ne z] at e; exact r.sub _ _ e
  · rcases cut j b x q1 q2 with ⟨z1, z2, z3⟩ | ⟨z1, z2⟩
    · rw [z3] at q3; cases q3
    · rw [upd_ne z1]; exact r.out j b x q1 z2 q3
  · rcases cut j b x q2 q1 with ⟨z1, z2, z3⟩ | ⟨z1, z2⟩
    · rw [z3]; trivial
    · exact (r.obj j x b z2 q2).mono ex fun z q => q
end

/-! ### judgements -/
abbrev XW := Value → Option Addr → Hp → Prop
def xField (j : Nat) : Str := if j = 4 then "saying" else "number"
/-- an exception as it leaves: its class, its own dict -/
def ExcR (C : RC) (G H : Hp) (e : Exn) (cls : Value) (d : Option Addr) : Prop := cls = .ref (C.cls e.cls) ∧ match e.arg with
  | none => d = none
  | some x => ∃ a v, d = some a ∧ G a = some (.xd [(xField e.cls, v)]) ∧ Rep C G v x
def Post {α β : Type} (C : RC) (rel : Hp → List Addr → β → α → Prop) (G : Hp) (m : List Addr) (H : Hp) (Q : β → Hp → Prop) (W : XW) : R α → Prop
  | .ok v st => ∀ x H' G' m', Ext G m H G' m' H' → Rl C G' m' H' st → rel G' m' x v → Q x H'
  | .exc e st => ∀ cls d H' G' m', Ext G m H G' m' H' → Rl C G' m' H' st → ExcR C G' H' e cls d → W cls d H'
  | .bad => False
def tE (C : RC) (W : WX) (ev : EE) : TE := fun σ H Q => ∃ G m env st, Rl C G m H st ∧ EnvR C G m σ env ∧ Post C (RepV C) G m H Q (fun c d H' => W c d σ H') (ev env st)
def relB (_ : Hp) (_ : List Addr) (x : Bool) (v : Bool) : Prop := x = v
def tT (C : RC) (W : WX) (ev : ET) : TT := fun σ H Q => ∃ G m env st, Rl C G m H st ∧ EnvR C G m σ env ∧ Post C relB G m H Q (fun c d H' => W c d σ H') (ev env st)
def tA (C : RC) (W : WX) (ev : EA) : TA := fun σ H Q => ∃ G m env st, Rl C G m H st ∧ EnvR C G m σ env ∧ Post C (RepVs C) G m H Q (fun c d H' => W c d σ H') (ev env st)
def PostS (C : RC) (G : Hp) (m : List Addr) (H : Hp) (E : Ends) (W : WX) : R Fl → Prop
  | .ok (.nx env) st => ∀ σ' H' G' m', Ext G m H G' m' H' → Rl C G' m' H' st → EnvR C G' m' σ' env → E.nx σ' H'
  | .ok (.bk env) st => ∀ σ' H' G' m', Ext G m H G' m' H' → Rl C G' m' H' st → EnvR C G' m' σ' env → E.bk σ' H'
  | .ok (.ct env) st => ∀ σ' H' G' m', Ext G m H G' m' H' → Rl C G' m' H' st → EnvR C G' m' σ' env → E.ct σ' H'
  | .ok (.rt v) st => ∀ x H' G' m', Ext G m H G' m' H' → Rl C G' m' H' st → RepV C G' m' x v → E.rt x H'
  | .ok (.ex e env) st => ∀ cls d σ' H' G' m', Ext G m H G' m' H' → Rl C G' m' H' st → EnvR C G' m' σ' env → ExcR C G' H' e cls d → W cls d σ' H'
  | .exc _ _ => False
  | .bad => False
def tS (C : RC) (W : WX) (ev : ES) : TS := fun E σ H => ∃ G m env st, Rl C G m H st ∧ EnvR C G m σ env ∧ PostS C G m H E W (ev env st)
end Mi
end

section
set_option maxRecDepth 100000
set_option autoImplicit false
namespace Mi
open PySem PySem.Spec L2

/-! ### moving along -/
section
variable {α β : Type} {C : RC} {G G' : Hp} {m m' : List Addr} {H H' : Hp} {W : XW}
theorem Post.ext {rel : Hp → List Addr → β → α → Prop} {Q : β → Hp → Prop} (e : Ext G m H G' m' H') {x : R α} (h : Post C rel G m H Q W x) : Post C rel G' m' H' Q W x := by
  cases x with
  | ok v st => exact fun x H2 G2 m2 e2 => h x H2 G2 m2 (e.trans e2)
  | exc v st => exact fun cls d H2 G2 m2 e2 => h cls d H2 G2 m2 (e.trans e2)
  | bad => exact h
theorem PostS.ext {E : Ends} {WS : WX} (e : Ext G m H G' m' H') {x : R Fl} (h : PostS C G m H E WS x) : PostS C G' m' H' E WS x := by
  cases x with
  | ok v st =>
    cases v with
    | nx env => exact fun σ' H2 G2 m2 e2 => h σ' H2 G2 m2 (e.trans e2)
    | bk env => exact fun σ' H2 G2 m2 e2 => h σ' H2 G2 m2 (e.trans e2)
    | ct env => exact fun σ' H2 G2 m2 e2 => h σ' H2 G2 m2 (e.trans e2)
    | rt v => exact fun σ' H2 G2 m2 e2 => h σ' H2 G2 m2 (e.trans e2)
    | ex v env => exact fun cls d σ' H2 G2 m2 e2 => h cls d σ' H2 G2 m2 (e.trans e2)
  | exc v st => exact h
  | bad => exact h
theorem Post.bindE {γ δ : Type} {rel : Hp → List Addr → β → α → Prop} {rel2 : Hp → List Addr → δ → γ → Prop} {Q : β → Hp → Prop} {Q2 : δ → Hp → Prop} {x : R α} {f : α → Sto → R γ} (h : Post C rel2 G m H Q2 W (x.bind f))
    (k : ∀ v st a H1 G1 m1, x = .ok v st → Ext G m H G1 m1 H1 → Rl C G1 m1 H1 st → rel G1 m1 a v → Post C rel2 G1 m1 H1 Q2 W (f v st) → Q a H1) : Post C rel G m H Q W x := by
  cases x with
  | ok v st => exact fun a H1 G1 m1 e rl rp => k v st a H1 G1 m1 rfl e rl rp (Post.ext e h)
  | exc v st => exact h
  | bad => exact h
/-- what a statement asks behind an expression -/
theorem Post.bindS {rel : Hp → List Addr → β → α → Prop} {Q : β → Hp → Prop} {E : Ends} {WS : WX} {σ : L2.St} {env : Ev} {x : R α} {f : α → Sto → R Fl} (en : EnvR C G m σ env) (h : PostS C G m H E WS (x.bindS env f))
    (k : ∀ v st a H1 G1 m1, x = .ok v st → Ext G m H G1 m1 H1 → Rl C G1 m1 H1 st → rel G1 m1 a v → PostS C G1 m1 H1 E WS (f v st) → Q a H1) : Post C rel G m H Q (fun c d H' => WS c d σ H') x := by
  cases x with
  | ok v st => exact fun a H1 G1 m1 e rl rp => k v st a H1 G1 m1 rfl e rl rp (PostS.ext e h)
  | exc v st => exact fun cls d H' G2 m2 e rl => h cls d σ H' G2 m2 e rl (en.ext e)
  | bad => exact h
def R.of {α : Type} : Option (α × Sto) → R α
  | some p => .ok p.1 p.2
  | none => .bad
@[simp] theorem R.of_some {α : Type} (a : α) (s : Sto) : R.of (some (a, s)) = .ok a s := rfl
@[simp] theorem R.of_none {α : Type} : R.of (none : Option (α × Sto)) = .bad := rfl
def PostO (C : RC) (rel : Hp → List Addr → β → α → Prop) (G : Hp) (m : List Addr) (H : Hp) (Q : β → Hp → Prop) : Option (α × Sto) → Prop
  | some p => ∀ x H' G' m', Ext G m H G' m' H' → Rl C G' m' H' p.2 → rel G' m' x p.1 → Q x H'
  | none => False
theorem Post.of {rel : Hp → List Addr → β → α → Prop} {Q : β → Hp → Prop} {o : Option (α × Sto)} (h : Post C rel G m H Q W (R.of o)) : PostO C rel G m H Q o := by
  cases o with
  | none => exact h
  | some p => exact h
end
section
variable {X : Cx} {e : Expr}
theorem _root_.L2.PE.impM {t t' : TE} (h : PE X e t) (i : ∀ σ H Q, t' σ H Q → t σ H Q) : PE X e t' := ⟨fun pins s σ H Q I q => h.run pins s σ H Q I (i _ _ _ q)⟩
theorem _root_.L2.PT.impM {t t' : TT} (h : PT X e t) (i : ∀ σ H Q, t' σ H Q → t σ H Q) : PT X e t' := ⟨fun pins s σ H Q I q => h.run pins s σ H Q I (i _ _ _ q)⟩
theorem _root_.L2.PW.impM {t t' : TT} (h : PW X e t) (i : ∀ σ H Q, t' σ H Q → t σ H Q) : PW X e t' := ⟨fun wh pins s σ H Q I q => h.run wh pins s σ H Q I (i _ _ _ q)⟩
theorem _root_.L2.PA.impM {es : List Expr} {t t' : TA} (h : PA X es t) (i : ∀ σ H Q, t' σ H Q → t σ H Q) : PA X es t' := ⟨fun pos pins s σ H Q I q => h.run pos pins s σ H Q I (i _ _ _ q)⟩
theorem _root_.L2.PS.impM {st : Stmt} {t t' : TS} (h : PS X st t) (i : ∀ D σ H, t' D σ H → t D σ H) : PS X st t' := ⟨fun pins s σ H D I q => h.run pins s σ H D I (i _ _ _ q)⟩
theorem _root_.L2.PSs.impM {st : List Stmt} {t t' : TS} (h : PSs X st t) (i : ∀ D σ H, t' D σ H → t D σ H) : PSs X st t' := ⟨fun pins s σ H D I q => h.run pins s σ H D I (i _ _ _ q)⟩
theorem opR_imp {f : Value → Value → Sem Value} {r r' : R2} (h : OpR X f r) (i : ∀ x y H Q, r' x y H Q → r x y H Q) : OpR X f r' := fun pins s σ H x y v u Q I rx ry q => h pins s σ H x y v u Q I rx ry (i _ _ _ _ q)
theorem callR_imp {f : Value} {r r' : List V → Hp → VK → Prop} (h : CallR X f r) (i : ∀ xs H Q, r' xs H Q → r xs H Q) : CallR X f r' := fun pins s σ H xs us Q I rx q => h pins s σ H xs us Q I rx (i _ _ _ q)
end

/-! ### the judgements -/
abbrev rc (X : Cx) (cl : Nat → Addr) : RC := ⟨X.K, X.w, cl⟩
abbrev SE (cl : Nat → Addr) (X : Cx) (W : WX) (e : Expr) (ev : EE) : Prop := PE X e (tE (rc X cl) W ev)
abbrev ST (cl : Nat → Addr) (X : Cx) (W : WX) (e : Expr) (ev : ET) : Prop := PT X e (tT (rc X cl) W ev)
abbrev SW (cl : Nat → Addr) (X : Cx) (W : WX) (e : Expr) (ev : ET) : Prop := PW X e (tT (rc X cl) W ev)
abbrev SA (cl : Nat → Addr) (X : Cx) (W : WX) (es : List Expr) (ev : EA) : Prop := PA X es (tA (rc X cl) W ev)
abbrev SS (cl : Nat → Addr) (X : Cx) (W : WX) (s : Stmt) (ev : ES) : Prop := PS X s (tS (rc X cl) W ev)
abbrev SSs (cl : Nat → Addr) (X : Cx) (W : WX) (s : List Stmt) (ev : ES) : Prop := PSs X s (tS (rc X cl) W ev)

/-! ### names, constants -/
section
variable {cl : Nat → Addr} {X : Cx} {W : WX} {pos : Pos}
def eVar (i : Nat) : EE := fun env st => match env[i]? with
  | some (some v) => .ok v st
  | _ => .bad
theorem se_var (i : Nat) {x : Str} (hN : X.N[i]? = some x := by rfl) (hv : Vis X.env.scope x := by first | exact Or.inl rfl | exact Or.inr (Or.inl rfl) | exact Or.inr (Or.inr rfl)) (hd : (x == ("__debug__" : Str)) = false := by decide)
    (hcd : (x == ("__classdict__" : Str)) = false := by decide) : SE cl X W (.Name x pos) (eVar i) := by
  refine (pe_var hN hv hd hcd).impM fun σ H Q h => ?_
  obtain ⟨G, m, env, st, rl, en, p⟩ := h
  unfold eVar at p
  split at p
  · rename_i v hv
    obtain ⟨x, hx, rx⟩ := en.2 i v hv
    exact ⟨x, hx, p x H G m (Ext.refl _ _ _) rl rx⟩
  · exact p.elim
def eC (x : D) : EE := fun _ st => .ok (.d x) st
theorem tC_of {v : V} {x : D} (r : ∀ G, Rep (rc X cl) G v x) {σ : L2.St} {H : Hp} {Q : VK} (h : tE (rc X cl) W (eC x) σ H Q) : tC v σ H Q := by
  obtain ⟨G, m, env, st, rl, en, p⟩ := h
  exact p v H G m (Ext.refl _ _ _) rl (.d (r G))
theorem se_int {i : Int} {j : Nat} : SE cl X W (.Constant (.int i) j pos) (eC (.int i)) := pe_int.impM fun _ _ _ h => tC_of (fun _ => .int i) h
theorem se_bl {b : Bool} {j : Nat} : SE cl X W (.Constant (.bool b) j pos) (eC (.bool b)) := pe_bl.impM fun _ _ _ h => tC_of (fun _ => .bl b) h
theorem se_non {j : Nat} : SE cl X W (.Constant .none j pos) (eC .none) := pe_non.impM fun _ _ _ h => tC_of (fun _ => .non) h
theorem se_str {x : Str} {j : Nat} : SE cl X W (.Constant (.str x) j pos) (eC (.str x)) := pe_str.impM fun _ _ _ h => tC_of (fun _ => .str x) h
/-- a constant of the module -/
theorem se_glob {x : Str} {v : V} {u : Value} {d : D} (r : ∀ G, Rep (rc X cl) G v d) (hg : Gl X x) (hm : X.mg x = some u) (rv : RelV v u) (hd : (x == ("__debug__" : Str)) = false := by decide) : SE cl X W (.Name x pos) (eC d) :=
  (pe_glob hg hm rv hd).impM fun _ _ _ h => tC_of r h
end

/-! ### two things and an operation -/
def eOp (f : Val → Val → Sto → Option (Val × Sto)) (a b : EE) : EE := fun env st => (a env st).bind fun x s1 => (b env s1).bind fun y s2 => R.of (f x y s2)
def rO (C : RC) (f : Val → Val → Sto → Option (Val × Sto)) : R2 := fun x y H Q => ∃ G m st a b, Rl C G m H st ∧ RepV C G m x a ∧ RepV C G m y b ∧ PostO C (RepV C) G m H Q (f a b st)
def pur2 (f : D → D → Option D) (x y : Val) (s : Sto) : Option (Val × Sto) := match x, y with
  | .d x, .d y => (f x y).map fun z => (.d z, s)
  | _, _ => none
theorem tOp_of {C : RC} {W : WX} {f : Val → Val → Sto → Option (Val × Sto)} {a b : EE} {σ : L2.St} {H : Hp} {Q : VK} (h : tE C W (eOp f a b) σ H Q) : tOp (rO C f) (tE C W a) (tE C W b) σ H Q := by
  obtain ⟨G, m, env, st, rl, en, p⟩ := h
  exact ⟨G, m, env, st, rl, en, Post.bindE p fun v s1 x H1 G1 m1 _ e1 rl1 r1 p1 => ⟨G1, m1, env, s1, rl1, en.ext e1, Post.bindE p1 fun u s2 y H2 G2 m2 _ e2 rl2 r2 p2 => ⟨G2, m2, s2, v, u, rl2, r1.ext e2, r2, p2.of⟩⟩⟩
section
variable {cl : Nat → Addr} {X : Cx} {W : WX} {pos : Pos} {a b c : Expr} {ea eb ec : EE} {f g : Val → Val → Sto → Option (Val × Sto)}
theorem se_op {op : Operator} (ho : OpR X (binaryOp op) (rO (rc X cl) f)) (ha : SE cl X W a ea) (hb : SE cl X W b eb) : SE cl X W (.BinOp a op b pos) (eOp f ea eb) := (pe_op ho ha hb).impM fun _ _ _ h => tOp_of h
theorem se_cmp {op : CmpOp} (ho : OpR X (compareOp op) (rO (rc X cl) f)) (ha : SE cl X W a ea) (hb : SE cl X W b eb) (hm : behindInMarks op b = false) : SE cl X W (.Compare a [op] [b] pos) (eOp f ea eb) := (pe_cmpR ho ha hb hm).impM fun _ _ _ h => tOp_of h
def eTst (a : EE) : ET := fun env st => (a env st).bind fun v s => match v with
  | .d (.bool b) => .ok b s
  | _ => .bad
theorem tTest_of {C : RC} {ea : EE} {σ : L2.St} {H : Hp} {Q : Bool → Hp → Prop} (h : tT C W (eTst ea) σ H Q) : tTest (tE C W ea) σ H Q := by
  obtain ⟨G, m, env, st, rl, en, p⟩ := h
  refine ⟨G, m, env, st, rl, en, Post.bindE p fun v s1 x H1 G1 m1 _ e1 rl1 r1 p1 => ?_⟩
  split at p1
  · rename_i b _
    cases r1 with
    | d r => cases r; exact ⟨b, rfl, p1 b H1 G1 m1 (Ext.refl _ _ _) rl1 rfl⟩
  · exact p1.elim
theorem st_cmp {op : CmpOp} (ho : OpR X (compareOp op) (rO (rc X cl) f)) (ha : SE cl X W a ea) (hb : SE cl X W b eb) (hm : behindInMarks op b = false) : ST cl X W (.Compare a [op] [b] pos) (eTst (eOp f ea eb)) :=
  (pt_cmpR ho ha hb hm).impM fun σ H Q h => by
    have q := tTest_of h
    exact tOp_of q
theorem st_val {e : Expr} {ee : EE} (h : SE cl X W e ee) (he : ∀ whole, isTrue e X.env whole = (do let v ← whole; standAt e.pos; holding [v] (truthy v)) := by intro _; rfl) : ST cl X W e (eTst ee) :=
  (pt_val h he).impM fun σ H Q h => tTest_of h
/-- a op b op' c -/
def eChain (f g : Val → Val → Sto → Option (Val × Sto)) (a b c : EE) : EE := fun env st => (a env st).bind fun x s1 => (b env s1).bind fun y s2 => (R.of (f x y s2)).bind fun z s3 => match z with
  | .d (.bool true) => (c env s3).bind fun w s4 => R.of (g y w s4)
  | .d (.bool false) => .ok (.d (.bool false)) s3
  | _ => .bad
theorem tChain_of {C : RC} {σ : L2.St} {H : Hp} {Q : VK} (h : tE C W (eChain f g ea eb ec) σ H Q) : tChain (rO C f) (rO C g) (tE C W ea) (tE C W eb) (tE C W ec) σ H Q := by
  obtain ⟨G, m, env, st, rl, en, p⟩ := h
  refine ⟨G, m, env, st, rl, en, Post.bindE p fun v s1 x H1 G1 m1 _ e1 rl1 r1 p1 => ⟨G1, m1, env, s1, rl1, en.ext e1, Post.bindE p1 fun u s2 y H2 G2 m2 _ e2 rl2 r2 p2 => ⟨G2, m2, s2, v, u, rl2, r1.ext e2, r2, ?_⟩⟩⟩
  refine Post.of (W := fun c d H' => W c d σ H') (Post.bindE p2 fun z s3 k H3 G3 m3 _ e3 rl3 r3 p3 => ?_)
  split at p3
  · cases r3 with
    | d r => cases r; exact ⟨true, rfl, by rw [if_pos rfl]; exact ⟨G3, m3, env, s3, rl3, ((en.ext e1).ext e2).ext e3, Post.bindE p3 fun w s4 q H4 G4 m4 _ e4 rl4 r4 p4 => ⟨G4, m4, s4, u, w, rl4, (r2.ext e3).ext e4, r4, p4.of⟩⟩⟩
  · cases r3 with
    | d r => cases r; exact ⟨false, rfl, by rw [if_neg (by decide)]; exact p3 _ H3 G3 m3 (Ext.refl _ _ _) rl3 (.d (.bl false))⟩
  · exact p3.elim
theorem se_chain {op op' : CmpOp} (ho : OpR X (compareOp op) (rO (rc X cl) f)) (ho' : OpR X (compareOp op') (rO (rc X cl) g)) (ha : SE cl X W a ea) (hb : SE cl X W b eb) (hc : SE cl X W c ec)
    (hm : lastMarks [op, op'] [b, c] = false := by with_unfolding_all rfl) : SE cl X W (.Compare a [op, op'] [b, c] pos) (eChain f g ea eb ec) := (pe_chain ho ho' ha hb hc hm).impM fun _ _ _ h => tChain_of h
theorem st_chain {op op' : CmpOp} (ho : OpR X (compareOp op) (rO (rc X cl) f)) (ho' : OpR X (compareOp op') (rO (rc X cl) g)) (ha : SE cl X W a ea) (hb : SE cl X W b eb) (hc : SE cl X W c ec)
    (hm : lastMarks [op, op'] [b, c] = false := by with_unfolding_all rfl) : ST cl X W (.Compare a [op, op'] [b, c] pos) (eTst (eChain f g ea eb ec)) := (pt_chain ho ho' ha hb hc hm).impM fun _ _ _ h => by
    have q := tTest_of h
    exact tChain_of q

/-! ### and, or, not, if -/
def eAnd (a b : EE) : EE := fun env st => (a env st).bind fun v s => match v with
  | .d (.bool true) => b env s
  | .d (.bool false) => .ok (.d (.bool false)) s
  | _ => .bad
def eOr (a b : EE) : EE := fun env st => (a env st).bind fun v s => match v with
  | .d (.bool true) => .ok (.d (.bool true)) s
  | .d (.bool false) => b env s
  | _ => .bad
def eNot (a : EE) : EE := fun env st => (a env st).bind fun v s => match v with
  | .d (.bool b) => .ok (.d (.bool (!b))) s
  | _ => .bad
def kAnd (a b : ET) : ET := fun env st => (a env st).bind fun v s => match v with
  | true => b env s
  | false => .ok false s
def kOr (a b : ET) : ET := fun env st => (a env st).bind fun v s => match v with
  | true => .ok true s
  | false => b env s
def kNot (a : ET) : ET := fun env st => (a env st).bind fun v s => .ok (!v) s
def eIf (t : ET) (a b : EE) : EE := fun env st => (t env st).bind fun v s => match v with
  | true => a env s
  | false => b env s
variable {rest : List Expr} {ta tb : ET}
theorem se_one {op : BoolOp} (h : SE cl X W a ea) : SE cl X W (.BoolOp op [a] pos) ea := pe_one h
theorem se_and (ha : SE cl X W a ea) (hb : SE cl X W (.BoolOp .And (b :: rest) pos) eb) : SE cl X W (.BoolOp .And (a :: b :: rest) pos) (eAnd ea eb) := (pe_and ha hb).impM fun σ H Q h => by
  obtain ⟨G, m, env, st, rl, en, p⟩ := h
  refine ⟨G, m, env, st, rl, en, Post.bindE p fun v s1 x H1 G1 m1 _ e1 rl1 r1 p1 => ?_⟩
  split at p1
  · cases r1 with
    | d r => cases r; exact ⟨true, rfl, by rw [if_pos rfl]; exact ⟨G1, m1, env, s1, rl1, en.ext e1, p1⟩⟩
  · cases r1 with
    | d r => cases r; exact ⟨false, rfl, by rw [if_neg (by decide)]; exact p1 _ H1 G1 m1 (Ext.refl _ _ _) rl1 (.d (.bl false))⟩
  · exact p1.elim
theorem se_not (ha : SE cl X W a ea) : SE cl X W (.UnaryOp .Not a pos) (eNot ea) := (pe_not ha).impM fun σ H Q h => by
  obtain ⟨G, m, env, st, rl, en, p⟩ := h
  refine ⟨G, m, env, st, rl, en, Post.bindE p fun v s1 x H1 G1 m1 _ e1 rl1 r1 p1 => ?_⟩
  split at p1
  · rename_i b _
    cases r1 with
    | d r => cases r; exact ⟨b, rfl, p1 _ H1 G1 m1 (Ext.refl _ _ _) rl1 (.d (.bl _))⟩
  · exact p1.elim
theorem sw_one_and (ha : ST cl X W a ta) : SW cl X W (.BoolOp .And [a] pos) ta := pw_and1 ha
theorem sw_one_or (ha : ST cl X W a ta) : SW cl X W (.BoolOp .Or [a] pos) ta := pw_or1 ha
theorem sw_and (ha : ST cl X W a ta) (hb : SW cl X W (.BoolOp .And (b :: rest) pos) tb) : SW cl X W (.BoolOp .And (a :: b :: rest) pos) (kAnd ta tb) := (pw_and ha hb).impM fun σ H Q h => by
  obtain ⟨G, m, env, st, rl, en, p⟩ := h
  refine ⟨G, m, env, st, rl, en, Post.bindE p fun v s1 x H1 G1 m1 _ e1 rl1 r1 p1 => ?_⟩
  cases (show x = v from r1)
  cases v with
  | true => rw [if_pos rfl]; exact ⟨G1, m1, env, s1, rl1, en.ext e1, p1⟩
  | false => rw [if_neg (by decide)]; exact p1 _ H1 G1 m1 (Ext.refl _ _ _) rl1 rfl
theorem sw_or (ha : ST cl X W a ta) (hb : SW cl X W (.BoolOp .Or (b :: rest) pos) tb) : SW cl X W (.BoolOp .Or (a :: b :: rest) pos) (kOr ta tb) := (pw_or ha hb).impM fun σ H Q h => by
  obtain ⟨G, m, env, st, rl, en, p⟩ := h
  refine ⟨G, m, env, st, rl, en, Post.bindE p fun v s1 x H1 G1 m1 _ e1 rl1 r1 p1 => ?_⟩
  cases (show x = v from r1)
  cases v with
  | true => rw [if_pos rfl]; exact p1 _ H1 G1 m1 (Ext.refl _ _ _) rl1 rfl
  | false => rw [if_neg (by decide)]; exact ⟨G1, m1, env, s1, rl1, en.ext e1, p1⟩
theorem st_bool {e : Expr} (h : SW cl X W e ta) : ST cl X W e ta := h.pt
theorem st_not (ha : ST cl X W a ta) : ST cl X W (.UnaryOp .Not a pos) (kNot ta) := (pt_not ha).impM fun σ H Q h => by
  obtain ⟨G, m, env, st, rl, en, p⟩ := h
  refine ⟨G, m, env, st, rl, en, Post.bindE p fun v s1 x H1 G1 m1 _ e1 rl1 r1 p1 => ?_⟩
  cases (show x = v from r1)
  exact p1 _ H1 G1 m1 (Ext.refl _ _ _) rl1 rfl
theorem se_if (hc : ST cl X W c ta) (ha : SE cl X W a ea) (hb : SE cl X W b eb) : SE cl X W (.IfExp c a b pos) (eIf ta ea eb) := (pe_ifExp hc ha hb).impM fun σ H Q h => by
  obtain ⟨G, m, env, st, rl, en, p⟩ := h
  refine ⟨G, m, env, st, rl, en, Post.bindE p fun v s1 x H1 G1 m1 _ e1 rl1 r1 p1 => ?_⟩
  cases (show x = v from r1)
  cases v with
  | true => rw [if_pos rfl]; exact ⟨G1, m1, env, s1, rl1, en.ext e1, p1⟩
  | false => rw [if_neg (by decide)]; exact ⟨G1, m1, env, s1, rl1, en.ext e1, p1⟩

/-! ### several -/
def aNil : EA := fun _ st => .ok [] st
def aCons (a : EE) (r : EA) : EA := fun env st => (a env st).bind fun x s1 => (r env s1).bind fun xs s2 => .ok (x :: xs) s2
variable {es : List Expr} {er : EA}
theorem sa_nil : SA cl X W [] aNil := pa_nil.impM fun σ H Q h => by
  obtain ⟨G, m, env, st, rl, en, p⟩ := h
  exact p [] H G m (Ext.refl _ _ _) rl .nil
theorem sa_cons (ha : SE cl X W a ea) (hr : SA cl X W es er) (hs : starEach (a :: es) X.env = (false, eval a X.env) :: starEach es X.env := by rfl) : SA cl X W (a :: es) (aCons ea er) := (pa_cons ha hr hs).impM fun σ H Q h => by
  obtain ⟨G, m, env, st, rl, en, p⟩ := h
  refine ⟨G, m, env, st, rl, en, Post.bindE p fun v s1 x H1 G1 m1 _ e1 rl1 r1 p1 => ⟨G1, m1, env, s1, rl1, en.ext e1, Post.bindE p1 fun u s2 y H2 G2 m2 _ e2 rl2 r2 p2 => ?_⟩⟩
  exact p2 _ H2 G2 m2 (Ext.refl _ _ _) rl2 (.cons (r1.ext e2) r2)
end
end Mi
end

section
set_option maxRecDepth 100000
set_option autoImplicit false
namespace Mi
open PySem PySem.Spec L2

/-! ### helpers -/
section
variable {C : RC} {G : Hp} {m : List Addr} {H : Hp} {st : Sto} {Q : VK} {p : Addr} {vs : List V} {ds : List D}
theorem new_tup (rl : Rl C G m H st) (hp : H p = none) (ra : RepAll C G vs ds) (h : ∀ x H' G' m', Ext G m H G' m' H' → Rl C G' m' H' st → RepV C G' m' x (.d (.tuple ds)) → Q x H') : Q (.ref p) (upd H p (.tup vs)) := by
  obtain ⟨r, e⟩ := rl.laid hp (.tup vs)
  exact h _ _ _ _ e r (.d (.tup (SqT.of upd_same) (ra.sub e.sub)))
theorem new_lst (rl : Rl C G m H st) (hp : H p = none) (ra : RepAll C G vs ds) (h : ∀ x H' G' m', Ext G m H G' m' H' → Rl C G' m' H' st → RepV C G' m' x (.d (.list ds)) → Q x H') : Q (.ref p) (upd H p (.lst vs)) := by
  obtain ⟨r, e⟩ := rl.laid hp (.lst vs)
  exact h _ _ _ _ e r (.d (.lst upd_same (ra.sub e.sub)))
/-- a new list that may be changed -/
theorem new_ref (rl : Rl C G m H st) (hp : H p = none) (ra : RepAll C G vs ds) (h : ∀ x H' G' m', Ext G m H G' m' H' → Rl C G' m' H' (st ++ [.lst ds]) → RepV C G' m' x (.r st.length) → Q x H') : Q (.ref p) (upd H p (.lst vs)) := by
  obtain ⟨r, e⟩ := rl.alloc hp (.lst vs) (.lst ds) ⟨vs, upd_same, ra⟩
  refine h _ _ _ _ e r (.r ?_)
  rw [← rl.len, List.getElem?_append_right (Nat.le_refl _)]
  simp
/-- the items of a list, of a tuple -/
def lsOf (v : Val) (st : Sto) : Option (List D) := match v with
  | .d (.list xs) => some xs
  | .r i => match st[i]? with
    | some (.lst xs) => some xs
    | _ => none
  | _ => none
theorem ls_of (rl : Rl C G m H st) {v : V} {a : Val} {xs : List D} (r : RepV C G m v a) (h : lsOf a st = some xs) : ∃ p vs, v = .ref p ∧ H p = some (.lst vs) ∧ RepAll C G vs xs := by
  cases r with
  | d r =>
    cases r with
    | lst g ra => cases h; exact ⟨_, _, rfl, rl.sub _ _ g, ra⟩
    | non => cases h
    | bl => cases h
    | int => cases h
    | str => cases h
    | tup => cases h
    | dK => cases h
    | dN => cases h
  | r q =>
    simp only [lsOf] at h
    split at h
    · rename_i ys e
      cases h
      obtain ⟨vs, hv, ra⟩ := rl.obj _ _ _ e q
      exact ⟨_, vs, rfl, hv, ra⟩
    · cases h
  | s q => cases h
  | a q => cases h
  | c q _ => cases h
  | f => cases h
/-- of a list or a tuple -/
def sqOf (v : Val) (st : Sto) : Option (List D) := match v with
  | .d (.tuple xs) => some xs
  | v => lsOf v st
theorem sq_of (rl : Rl C G m H st) {v : V} {a : Val} {xs : List D} (r : RepV C G m v a) (h : sqOf a st = some xs) : ∃ p vs, v = .ref p ∧ (H p = some (.lst vs) ∨ SqT C.K H p vs) ∧ RepAll C G vs xs := by
  unfold sqOf at h
  split at h
  · cases h
    cases r with
    | d r =>
      cases r with
      | tup g ra => exact ⟨_, _, rfl, .inr (SqT.sub rl.sub g), ra⟩
  · obtain ⟨p, vs, e, h1, h2⟩ := ls_of rl r h
    exact ⟨p, vs, e, .inl h1, h2⟩
theorem RepAll.ints : ∀ {ns : List Int} {vs : List V}, RepAll C G vs (ns.map PyData.int) → vs = ns.map V.int
  | [], _, h => by cases h; rfl
  | _ :: _, _, h => by
    cases h with
    | cons q r => cases q; rw [List.map_cons, RepAll.ints r]
theorem RepAll.bools : ∀ {ns : List Bool} {vs : List V}, RepAll C G vs (ns.map PyData.bool) → vs = ns.map V.bl
  | [], _, h => by cases h; rfl
  | _ :: _, _, h => by
    cases h with
    | cons q r => cases q; rw [List.map_cons, RepAll.bools r]
end
def intsOf : List D → Option (List Int)
  | [] => some []
  | .int i :: r => (intsOf r).map (i :: ·)
  | _ :: _ => none
theorem intsOf_eq : ∀ {xs : List D} {ns : List Int}, intsOf xs = some ns → xs = ns.map PyData.int
  | [], _, h => by cases h; rfl
  | .int i :: r, ns, h => by
    simp only [intsOf, Option.map_eq_some_iff] at h
    obtain ⟨l, h1, rfl⟩ := h
    rw [intsOf_eq h1]; rfl
  | .none :: _, _, h => by cases h
  | .bool _ :: _, _, h => by cases h
  | .str _ :: _, _, h => by cases h
  | .list _ :: _, _, h => by cases h
  | .tuple _ :: _, _, h => by cases h
  | .dict _ :: _, _, h => by cases h
@[simp] theorem intsOf_map (ns : List Int) : intsOf (ns.map PyData.int) = some ns := by
  induction ns with
  | nil => rfl
  | cons a r ih => simp [intsOf, ih]
def boolsOf : List D → Option (List Bool)
  | [] => some []
  | .bool i :: r => (boolsOf r).map (i :: ·)
  | _ :: _ => none
theorem boolsOf_eq : ∀ {xs : List D} {ns : List Bool}, boolsOf xs = some ns → xs = ns.map PyData.bool
  | [], _, h => by cases h; rfl
  | .bool i :: r, ns, h => by
    simp only [boolsOf, Option.map_eq_some_iff] at h
    obtain ⟨l, h1, rfl⟩ := h
    rw [boolsOf_eq h1]; rfl
  | .none :: _, _, h => by cases h
  | .int _ :: _, _, h => by cases h
  | .str _ :: _, _, h => by cases h
  | .list _ :: _, _, h => by cases h
  | .tuple _ :: _, _, h => by cases h
  | .dict _ :: _, _, h => by cases h
@[simp] theorem boolsOf_map (ns : List Bool) : boolsOf (ns.map PyData.bool) = some ns := by
  induction ns with
  | nil => rfl
  | cons a r ih => simp [boolsOf, ih]

/-! ### whole numbers -/
section
variable {cl : Nat → Addr} {X : Cx}
def dI (f : Int → Int → Option D) (x y : D) : Option D := match x, y with
  | .int i, .int j => f i j
  | _, _ => none
/-- an operation of ints by its rule -/
theorem opI_of {g : Value → Value → Sem Value} {r : R2} {f : Int → Int → Option D} (h : OpR X g r) (k : ∀ i j d H Q, f i j = some d → (∀ v, (∀ G, Rep (rc X cl) G v d) → Q v H) → r (.int i) (.int j) H Q) : OpR X g (rO (rc X cl) (pur2 (dI f))) := by
  refine opR_imp h fun x y H Q q => ?_
  obtain ⟨G, m, st, a, b, rl, ra, rb, p⟩ := q
  cases ra with
  | d ra =>
    cases rb with
    | d rb =>
      cases ra with
      | int i =>
        cases rb with
        | int j =>
          cases e : f i j with
          | none => simp [pur2, dI, e] at p; exact p.elim
          | some d =>
            refine k i j d H Q e fun v hv => ?_
            have p2 : PostO (rc X cl) (RepV (rc X cl)) G m H Q (some (.d d, st)) := by simpa [pur2, dI, e] using p
            exact p2 v H G m (Ext.refl _ _ _) rl (.d (hv G))
        | _ => exact p.elim
      | _ => cases rb <;> exact p.elim
    | _ => cases ra <;> exact p.elim
  | _ => cases rb <;> exact p.elim
def iSub (i j : Int) : Option D := some (.int (i - j))
def iMul (i j : Int) : Option D := if (-(2 ^ 64) < i ∧ i < 2 ^ 64) ∨ (-(2 ^ 64) < j ∧ j < 2 ^ 64) then some (.int (i * j)) else none
def iDiv (i j : Int) : Option D := if 0 < j ∧ j < 1073741824 then some (.int (i / j)) else none
def iMod (i j : Int) : Option D := if 0 < j then some (.int (i % j)) else none
def iPow (i j : Int) : Option D := if 0 ≤ j ∧ j ≤ 1000000 ∧ i.natAbs < 2 ^ 64 then some (.int (i ^ j.toNat)) else none
def iLt (i j : Int) : Option D := some (.bool (decide (i < j)))
def iLe (i j : Int) : Option D := some (.bool (decide (i ≤ j)))
def iGt (i j : Int) : Option D := some (.bool (decide (j < i)))
def iGe (i j : Int) : Option D := some (.bool (decide (j ≤ i)))
theorem o_sub : OpR X (binaryOp .Sub) (rO (rc X cl) (pur2 (dI iSub))) := opI_of op_sub fun i j d H Q e k => by cases e; exact ⟨i, j, rfl, rfl, k _ fun _ => .int _⟩
theorem o_div : OpR X (binaryOp .FloorDiv) (rO (rc X cl) (pur2 (dI iDiv))) := opI_of op_fdiv fun i j d H Q e k => by
  unfold iDiv at e; split at e
  · rename_i c; cases e; exact ⟨i, j, rfl, rfl, c, k _ fun _ => .int _⟩
  · cases e
theorem o_mod : OpR X (binaryOp .Mod) (rO (rc X cl) (pur2 (dI iMod))) := opI_of op_mod fun i j d H Q e k => by
  unfold iMod at e; split at e
  · rename_i c; cases e; exact ⟨i, j, rfl, rfl, c, k _ fun _ => .int _⟩
  · cases e
theorem o_pow : OpR X (binaryOp .Pow) (rO (rc X cl) (pur2 (dI iPow))) := opI_of op_pow fun i j d H Q e k => by
  unfold iPow at e; split at e
  · rename_i c; cases e; exact ⟨i, j, rfl, rfl, c, k _ fun _ => .int _⟩
  · cases e
theorem o_lt : OpR X (compareOp .Lt) (rO (rc X cl) (pur2 (dI iLt))) := opI_of op_lt fun i j d H Q e k => by cases e; exact ⟨i, j, rfl, rfl, k _ fun _ => .bl _⟩
theorem o_le : OpR X (compareOp .LtE) (rO (rc X cl) (pur2 (dI iLe))) := opI_of op_le fun i j d H Q e k => by cases e; exact ⟨i, j, rfl, rfl, k _ fun _ => .bl _⟩
theorem o_gt : OpR X (compareOp .Gt) (rO (rc X cl) (pur2 (dI iGt))) := opI_of op_gt fun i j d H Q e k => by cases e; exact ⟨i, j, rfl, rfl, k _ fun _ => .bl _⟩
end
end Mi
end

section
set_option maxRecDepth 100000
set_option autoImplicit false
namespace Mi
open PySem PySem.Spec L2
/-! ### dicts: of int keys, of tuple keys -/
inductive DC where
  | k (ps : List (Int × D))
  | n (ps : List (D × D))
def kInts : List (D × D) → Option (List (Int × D))
  | [] => some []
  | (.int i, x) :: r => (kInts r).map ((i, x) :: ·)
  | _ :: _ => none
def dcD : List (D × D) → Option DC
  | (.none, .none) :: ps => some (.n ps)
  | kvs => (kInts kvs).map .k
def dcOf (v : Val) (st : Sto) : Option DC := match v with
  | .d (.dict kvs) => dcD kvs
  | .r i => (match st[i]? with
    | some (.dK ps) => some (.k ps)
    | some (.dN ps) => some (.n ps)
    | some (.dL ps) => some (.n ps)
    | _ => none)
  | _ => none
def kFind (ps : List (Int × D)) (i : Int) : Option D := (ps.find? fun p => decide (p.1 = i)).map (·.2)
def nFind (ps : List (D × D)) (k : NestedKey) : Option D := (ps.find? fun p => decide (nk p.1 = some k)).map (·.2)
/-- what a dict holds at a key; none: nothing is said -/
def look (c : DC) (x : D) : Option (Option D) := match c, x with
  | .k ps, .int i => some (kFind ps i)
  | .n ps, .tuple xs => (match nk (.tuple xs) with
    | some k => if k.depth ≤ 8 then some (nFind ps k) else none
    | none => none)
  | _, _ => none
theorem kInts_of : ∀ ps : List (Int × D), kInts (ps.map fun p => (PyData.int p.1, p.2)) = some ps
  | [] => rfl
  | p :: ps => by simp [kInts, kInts_of ps]
theorem dcD_k (ps : List (Int × D)) : dcD (ps.map fun p => (PyData.int p.1, p.2)) = some (.k ps) := by
  have h := kInts_of ps
  cases ps with
  | nil => rfl
  | cons p ps =>
    rw [List.map_cons] at h ⊢
    show (kInts _).map DC.k = _
    rw [h]; rfl
section
variable {C : RC} {G : Hp} {m : List Addr} {H : Hp} {st : Sto}
/-- there, locked or frozen -/
def RdN (H : Hp) (a : Addr) (u : HO) : Prop := H a = some u ∨ (∃ o, H a = some (.frz o u)) ∨ ∃ o, H a = some (.frz o (.frz o u))
theorem RdN.ok {P : Program} {w : World} {H : Hp} {h : Heap} {a : Addr} {u : HO} (r : RdN H a u) (k : HOk P w H h) : ObjOk P w H h a u := by
  rcases r with z | ⟨o, z⟩ | ⟨o, z⟩
  · exact k _ _ z
  · exact (k _ _ z).2
  · exact (k _ _ z).2.2
/-- how it stands -/
def DCR (C : RC) (G H : Hp) (p : Addr) : DC → Prop
  | .k ps => ∃ vs, Rd H p (.dK (kz ps vs)) ∧ RepAll C G vs (ps.map (·.2))
  | .n ps => ∃ xs, RdN H p (DictN C.w p xs) ∧ (p == sysModules) = false ∧ RepN C G ps xs
theorem dc_of (rl : Rl C G m H st) {v : V} {b : Val} {c : DC} (r : RepV C G m v b) (h : dcOf b st = some c) : ∃ p, v = .ref p ∧ DCR C G H p c := by
  cases r with
  | d r =>
    cases r with
    | dK g e ra =>
      simp only [dcOf, dcD_k] at h
      cases h
      subst e
      exact ⟨_, rfl, _, .inr ⟨_, rl.sub _ _ g⟩, ra⟩
    | dN g e ra =>
      simp only [dcOf, dcD] at h
      cases h
      exact ⟨_, rfl, _, .inr (.inr ⟨_, rl.sub _ _ g⟩), e, ra⟩
    | non => cases h
    | bl => cases h
    | int => cases h
    | str => cases h
    | lst => cases h
    | tup => cases h
  | r q =>
    simp only [dcOf] at h
    split at h
    · rename_i ps e
      cases h
      obtain ⟨vs, h1, h2⟩ := rl.obj _ _ _ e q
      exact ⟨_, rfl, vs, .inl h1, h2⟩
    · rename_i ps e
      cases h
      obtain ⟨xs, h1, h2, h3⟩ := rl.obj _ _ _ e q
      exact ⟨_, rfl, xs, .inl h1, h2, h3⟩
    · rename_i ps e
      cases h
      obtain ⟨od, xs, h1, h2, h3⟩ := rl.obj _ _ _ e q
      exact ⟨_, rfl, xs, .inr (.inl ⟨od, rl.sub _ _ h1⟩), h2, h3⟩
    · cases h
  | s q => cases h
  | a q => cases h
  | c q _ => cases h
  | f => cases h
theorem kz_val : ∀ (ps : List (Int × D)) (vs : List V) (i : Int), RepAll C G vs (ps.map (·.2)) → (match kFind ps i with
    | none => valV (kz ps vs) (Sum.inl i) = none
    | some x => ∃ v, valV (kz ps vs) (Sum.inl i) = some v ∧ Rep C G v x)
  | [], vs, i, h => by simp [kFind, kz, valV]
  | p :: ps, _, i, h => by
    cases h with
    | cons h1 h2 =>
      rename_i v vs
      have ih := kz_val ps vs i h2
      by_cases e : p.1 = i
      · have e1 : kFind (p :: ps) i = some p.2 := by simp [kFind, List.find?_cons, e]
        rw [e1]
        exact ⟨v, by simp [kz, valV, List.find?_cons, e], h1⟩
      · have e1 : kFind (p :: ps) i = kFind ps i := by simp [kFind, List.find?_cons, e]
        have e2 : valV (kz (p :: ps) (v :: vs)) (Sum.inl i) = valV (kz ps vs) (Sum.inl i) := by
          simp [kz, valV, List.find?_cons, e]
        rw [e1, e2]
        exact ih
theorem n_val (k : NestedKey) : ∀ (ps : List (D × D)) (xs : List (NestedKey × Addr × Value)), RepN C G ps xs → (match nFind ps k with
    | none => atKey xs k = none
    | some x => ∃ b u v, atKey xs k = some (b, u) ∧ RelV v u ∧ Rep C G v x)
  | [], _, h => by cases h; simp [nFind, atKey]
  | p :: ps, _, h => by
    cases h with
    | cons h1 h2 h3 h4 h5 h6 =>
      rename_i k1 b v u xs
      have ih := n_val k ps xs h6
      by_cases e : k1 = k
      · subst e
        have e1 : nFind (p :: ps) k1 = some p.2 := by simp [nFind, List.find?_cons, h1]
        rw [e1]
        exact ⟨b, u, v, by simp [atKey, List.find?_cons], h4, h5⟩
      · have e1 : nFind (p :: ps) k = nFind ps k := by
          simp [nFind, List.find?_cons, h1, e]
        have e2 : atKey ((k1, b, u) :: xs) k = atKey xs k := by simp [atKey, List.find?_cons, e]
        rw [e1, e2]
        exact ih
end
section
variable {cl : Nat → Addr} {X : Cx} {pins : List (Addr × Obj)} {σ : L2.St} {G H : Hp} {s : Shared} {m : List Addr} {st : Sto}
mutual
theorem nis (I : Inv X pins σ H s) (sb : Sub G H) : ∀ (d : D) (v : V) (u : Value) (k : NestedKey), Rep (rc X cl) G v d → RelV v u → nk d = some k → NestedIs s.heap k u
  | .none, _, _, _, h, r, e => by cases h; cases r; cases e; exact .none
  | .bool b, _, _, _, h, r, e => by cases e
  | .int i, _, _, _, h, r, e => by cases h; obtain ⟨t, rfl⟩ := r; cases e; exact .int _ _
  | .str x, _, _, _, h, r, e => by cases h; obtain ⟨t, rfl⟩ := r; cases e; exact .text _ _
  | .list _, _, _, _, h, r, e => by cases e
  | .dict _, _, _, _, h, r, e => by cases e
  | .tuple ds, _, _, _, h, r, e => by
    cases h with
    | tup q ra =>
      cases r
      simp only [nk, Option.map_eq_some_iff] at e
      obtain ⟨ks, e, rfl⟩ := e
      obtain ⟨its, rv, ⟨o, ho, hc, n, hd⟩, _⟩ := I.tuple (SqT.sub sb q)
      exact .tup ho hc hd (nisAll I sb ds _ its ks ra rv e)
theorem nisAll (I : Inv X pins σ H s) (sb : Sub G H) : ∀ (ds : List D) (vs : List V) (us : List Value) (ks : List NestedKey), RepAll (rc X cl) G vs ds → Vals vs us → nk.nks ds = some ks → NestedAll s.heap ks us
  | [], _, _, _, h, r, e => by cases h; cases r; cases e; exact .nil
  | d :: ds, _, _, _, h, r, e => by
    cases h with
    | cons h1 h2 =>
      cases r with
      | cons r1 r2 =>
        simp only [nk.nks] at e
        split at e
        · rename_i k ks e1 e2
          cases e
          exact .cons (nis I sb d _ _ k h1 r1 e1) (nisAll I sb ds _ _ ks h2 r2 e2)
        · cases e
end
theorem nis_mem (I : Inv X pins σ H s) (sb : Sub G H) : ∀ {ps : List (D × D)} {xs : List (NestedKey × Addr × Value)}, RepN (rc X cl) G ps xs → ∀ x ∈ xs, (nestedKind X.prog X.w).is s.heap x.1 x.2.1
  | _, _, .nil, x, hx => absurd hx List.not_mem_nil
  | _, _, .cons h1 h2 h3 h4 h5 h6, x, hx => by
    rcases List.mem_cons.mp hx with e | hx
    · subst e; exact ⟨nis I sb _ _ _ _ h3 rfl h1, h2⟩
    · exact nis_mem I sb h6 x hx
theorem dictN_of (I : Inv X pins σ H s) {a : Addr} {xs : List (NestedKey × Addr × Value)} (sb : Sub G H) (h : RdN H a (DictN X.w a xs)) {ps : List (D × D)} (r : RepN (rc X cl) G ps xs) : s.heap.DictOfH (nestedKind X.prog X.w) a xs := by
  have q := h.ok I.hok
  obtain ⟨⟨o, es, ep, h1, h2, h3, h4, h5⟩, _, _⟩ := q
  exact ⟨o, es, ep, h1, h2, h3, h4, nis_mem I sb r, h5⟩
theorem room_n {A : Around} (hu : A.units + 200 < cLine) : (nestedKind X.prog X.w).room A.in1 := by
  show A.in1.units + 8 < cLine
  have : A.in1.units ≤ A.units + 1 := by
    show (Around.in1 A).units ≤ _
    unfold Around.in1
    first | exact Nat.le_refl _ | simp
  omega
/-- the key at the other side -/
theorem look_key (I : Inv X pins σ H s) (sb : Sub G H) {xs : List D} {v : V} {u : Value} {k : NestedKey} (r : Rep (rc X cl) G v (.tuple xs)) (ru : RelV v u) (hk : nk (.tuple xs) = some k) (hd : k.depth ≤ 8) : ∃ b, u = .ref b ∧ (nestedKind X.prog X.w).is s.heap k b := by
  have z := nis I sb _ _ _ _ r ru hk
  cases r with
  | tup q ra => cases ru; exact ⟨_, rfl, z, hd⟩
theorem d_inM {A : Around} {c : DC} {p : Addr} {x : D} {o : Option D} {v : V} {u : Value} {Q : Value → Shared → Prop} {E : Value → Shared → Prop} (hu : A.units + 200 < cLine) (I : Inv X pins σ H s) (sb : Sub G H) (dc : DCR (rc X cl) G H p c) (rx : Rep (rc X cl) G v x) (ru : RelV v u) (hl : look c x = some o)
    (h : ∀ s', Inv X pins σ H s' → Q (.bool o.isSome) s') : wpAny (model X.prog X.w) A (compareOp .In u (.ref p)) Q E s := by
  unfold look at hl
  split at hl
  · rename_i ps i
    cases hl
    cases rx
    obtain ⟨vs, rd, ra⟩ := dc
    have z := kz_val ps vs i ra
    refine d_in (a := p) (y := .int i) (o := valV (kz ps vs) (Sum.inl i)) (by omega) I (.inl ⟨_, .inl i, rd, rfl, rfl⟩) ru fun s' I' => ?_
    have : (valV (kz ps vs) (Sum.inl i)).isSome = (kFind ps i).isSome := by
      split at z
      · rename_i e; rw [e, z]; rfl
      · rename_i x e; obtain ⟨v, e2, _⟩ := z; rw [e, e2]; rfl
    rw [this]; exact h s' I'
  · rename_i ps xs
    split at hl
    · rename_i k hk
      split at hl
      · rename_i hd
        cases hl
        obtain ⟨ys, rd, ne, rn⟩ := dc
        obtain ⟨b, rfl, key⟩ := look_key I sb rx ru hk hd
        have z := n_val k ps ys rn
        refine wpAny_in_heap (knd := nestedKind X.prog X.w) (k := k) (xs := ys) (room_n hu) key ne (dictN_of I sb rd rn) ?_
        have : (atKey ys k).isSome = (nFind ps k).isSome := by
          split at z
          · rename_i e; rw [e, z]; rfl
          · rename_i x e; obtain ⟨b, u, v, e2, _⟩ := z; rw [e, e2]; rfl
        rw [this]
        exact h _ (I.tok _)
      · cases hl
    · cases hl
  · cases hl
end
end Mi
end

section
set_option maxRecDepth 100000
set_option autoImplicit false
namespace Mi
open PySem PySem.Spec L2

/-! ### == and in, of data -/
def datOf (v : Val) (st : Sto) : Option D := match v with
  | .d x => some x
  | .r i => match st[i]? with
    | some (.lst xs) => some (.list xs)
    | _ => none
  | .s ns => some (.list (ns.map PyData.int))
  | .a _ _ => none
  | .c _ _ => none
  | .f _ => none
section
variable {C : RC} {G : Hp} {m : List Addr} {H : Hp} {st : Sto}
theorem dpAll_ints {K : PySem.W.Frag} : ∀ ns : List Int, DpAll K H (ns.map V.int) (ns.map PyData.int)
  | [] => .nil
  | _ :: r => .cons (.int _) (dpAll_ints r)
theorem dat_of (rl : Rl C G m H st) {v : V} {a : Val} {x : D} (r : RepV C G m v a) (h : datOf a st = some x) (hp : x.plain = true) : Dp C.K H v x := by
  cases r with
  | d r => cases h; exact Rep.dp rl.sub hp r
  | r q =>
    simp only [datOf] at h
    split at h
    · rename_i ys e
      cases h
      obtain ⟨vs, hv, ra⟩ := rl.obj _ _ _ e q
      exact .lst (SqL.of hv) (RepAll.dp rl.sub hp ra)
    · cases h
  | s q => cases h; exact .lst (SqL.sub rl.sub q) (dpAll_ints _)
  | a q => cases h
  | c q _ => cases h
  | f => cases h
end
def fits (x y : D) : Bool := x.plain && y.plain && decide (min x.depth y.depth ≤ 150)
def vEq (a b : Val) (st : Sto) : Option (Val × Sto) := match datOf a st, datOf b st with
  | some x, some y => if fits x y = true then some (.d (.bool (PyData.eqv x y)), st) else none
  | _, _ => none
def vNe (a b : Val) (st : Sto) : Option (Val × Sto) := match datOf a st, datOf b st with
  | some x, some y => if fits x y = true then some (.d (.bool (!PyData.eqv x y)), st) else none
  | _, _ => none
def fitsIn (xs : List D) (d : D) : Bool := PyData.plainAll xs && d.plain && decide (min (PyData.depthAll xs) d.depth ≤ 150)
def dIn (a b : Val) (f : Bool → Bool) (st : Sto) : Option (Val × Sto) := match a, dcOf b st with
  | .d x, some c => (look c x).map fun o => (.d (.bool (f o.isSome)), st)
  | _, _ => none
def vIn (a b : Val) (st : Sto) : Option (Val × Sto) := match datOf a st, sqOf b st with
  | some d, some xs => if fitsIn xs d = true then some (.d (.bool (xs.any fun y => PyData.eqv y d)), st) else none
  | _, _ => dIn a b id st
theorem fits_is {x y : D} (h : fits x y = true) : x.plain = true ∧ y.plain = true ∧ min x.depth y.depth ≤ 150 := by
  unfold fits at h
  simp only [Bool.and_eq_true, decide_eq_true_eq] at h
  exact ⟨h.1.1, h.1.2, h.2⟩
theorem fitsIn_is {xs : List D} {y : D} (h : fitsIn xs y = true) : PyData.plainAll xs = true ∧ y.plain = true ∧ min (PyData.depthAll xs) y.depth ≤ 150 := by
  unfold fitsIn at h
  simp only [Bool.and_eq_true, decide_eq_true_eq] at h
  exact ⟨h.1.1, h.1.2, h.2⟩
section
variable {cl : Nat → Addr} {X : Cx}
theorem o_eq (hu : X.A.units + 200 < cLine) : OpR X (compareOp .Eq) (rO (rc X cl) vEq) := by
  intro pins s σ H x y v u Q I rx ry h
  obtain ⟨G, m, st, a, b, rl, ra, rb, p⟩ := h
  unfold vEq at p
  split at p
  · rename_i d e hd he
    split at p
    · rename_i hf
      obtain ⟨f1, f2, f3⟩ := fits_is hf
      obtain ⟨as, r1⟩ := Dp.reads I d x v (dat_of rl ra hd f1) rx
      obtain ⟨bs, r2⟩ := Dp.reads I e y u (dat_of rl rb he f2) ry
      exact SeqAt.eq_plain r1 r2 f1 f2 (by omega) ⟨.bl _, H, I, rfl, p _ H G m (Ext.refl _ _ _) rl (.d (.bl _))⟩
    · exact p.elim
  · exact p.elim
theorem o_ne (hu : X.A.units + 200 < cLine) : OpR X (compareOp .NotEq) (rO (rc X cl) vNe) := by
  intro pins s σ H x y v u Q I rx ry h
  obtain ⟨G, m, st, a, b, rl, ra, rb, p⟩ := h
  unfold vNe at p
  split at p
  · rename_i d e hd he
    split at p
    · rename_i hf
      obtain ⟨f1, f2, f3⟩ := fits_is hf
      obtain ⟨as, r1⟩ := Dp.reads I d x v (dat_of rl ra hd f1) rx
      obtain ⟨bs, r2⟩ := Dp.reads I e y u (dat_of rl rb he f2) ry
      exact SeqAt.ne_plain r1 r2 f1 f2 (by omega) ⟨.bl _, H, I, rfl, p _ H G m (Ext.refl _ _ _) rl (.d (.bl _))⟩
    · exact p.elim
  · exact p.elim
/-- a list or a tuple, read as data -/
theorem sq_reads {pins : List (Addr × Obj)} {s : Shared} {σ : L2.St} {H G : Hp} {m : List Addr} {st : Sto} {v : V} {u : Value} {b : Val} {xs : List D} (I : Inv X pins σ H s) (rl : Rl (rc X cl) G m H st) (r : RepV (rc X cl) G m v b) (ru : RelV v u) (h : sqOf b st = some xs) (hp : PyData.plainAll xs = true) :
    (∃ as, Reads s.heap u (.list xs) as) ∨ ∃ as, Reads s.heap u (.tuple xs) as := by
  obtain ⟨p, vs, rfl, k, ra⟩ := sq_of rl r h
  rcases k with k | k
  · exact .inl (Dp.reads I (.list xs) _ u (.lst (SqL.of k) (RepAll.dp rl.sub hp ra)) ru)
  · exact .inr (Dp.reads I (.tuple xs) _ u (.tup k (RepAll.dp rl.sub hp ra)) ru)
theorem o_in (hu : X.A.units + 200 < cLine) : OpR X (compareOp .In) (rO (rc X cl) vIn) := by
  intro pins s σ H x y v u Q I rx ry h
  obtain ⟨G, m, st, a, b, rl, ra, rb, p⟩ := h
  unfold vIn at p
  split at p
  · rename_i d xs hd he
    split at p
    · rename_i hf
      obtain ⟨f1, f2, f3⟩ := fitsIn_is hf
      obtain ⟨as, r1⟩ := Dp.reads I d x v (dat_of rl ra hd f2) rx
      rcases sq_reads I rl rb ry he f1 with ⟨bs, r2⟩ | ⟨bs, r2⟩
      · exact SeqAt.in_list_data r2 r1 f1 f2 (by omega) ⟨.bl _, H, I, rfl, p _ H G m (Ext.refl _ _ _) rl (.d (.bl _))⟩
      · exact SeqAt.in_tuple_data r2 r1 f1 f2 (by omega) ⟨.bl _, H, I, rfl, p _ H G m (Ext.refl _ _ _) rl (.d (.bl _))⟩
    · exact p.elim
  · unfold dIn at p
    split at p
    · rename_i x0 c0 hc0 hz0
      cases hl : look c0 x0 with
      | none => rw [hl] at p; exact p.elim
      | some o =>
        rw [hl] at p
        obtain ⟨q, rfl, dc⟩ := dc_of rl rb hc0
        cases ry
        cases ra with
        | d rx0 => exact d_inM hu I rl.sub dc rx0 rx hl fun s' I' => ⟨.bl _, H, I', rfl, p _ H G m (Ext.refl _ _ _) rl (.d (.bl _))⟩
    · exact p.elim
/-! ### is -/
def isNon : Val → Bool
  | .d .none => true
  | _ => false
def vNotN (a b : Val) (st : Sto) : Option (Val × Sto) := match b with
  | .d .none => some (.d (.bool (!isNon a)), st)
  | .d (.bool k) => (match a with
    | .d (.bool j) => some (.d (.bool (!decide (j = k))), st)
    | _ => none)
  | _ => none
theorem isNon_eq {C : RC} {G : Hp} {m : List Addr} {v : V} {a : Val} (r : RepV C G m v a) : decide (v = .non) = isNon a := by
  cases r with
  | d r => cases r <;> simp [isNon]
  | r q => simp [isNon]
  | s q => simp [isNon]
  | a q => simp [isNon]
  | c q _ => simp [isNon]
  | f => simp [isNon]
theorem o_isnot : OpR X (compareOp .IsNot) (rO (rc X cl) vNotN) := by
  refine opR_imp (op_notN.or op_notBl) fun x y H Q h => ?_
  obtain ⟨G, m, st, a, b, rl, ra, rb, p⟩ := h
  unfold vNotN at p
  split at p
  · cases rb with
    | d rb => cases rb; exact .inl ⟨rfl, by rw [isNon_eq ra]; exact p _ H G m (Ext.refl _ _ _) rl (.d (.bl _))⟩
  · split at p
    · cases rb with
      | d rb =>
        cases rb
        cases ra with
        | d ra => cases ra; exact .inr ⟨_, _, rfl, rfl, p _ H G m (Ext.refl _ _ _) rl (.d (.bl _))⟩
    · exact p.elim
  · exact p.elim

/-! ### + and * -/
def small (n : Nat) : Bool := decide (n ≤ 1000000)
theorem small_is {n : Nat} (h : small n = true) : n ≤ sizeLine := by
  have h := of_decide_eq_true h
  rw [sizeLine_eq]; omega
def vAdd (a b : Val) (st : Sto) : Option (Val × Sto) := match a, b with
  | .d (.int i), .d (.int j) => some (.d (.int (i + j)), st)
  | .d (.str x), .d (.str y) => if small (x.length + y.length) = true then some (.d (.str (x ++ y)), st) else none
  | .d (.tuple xs), .d (.tuple ys) => if small (xs.length + ys.length) = true then some (.d (.tuple (xs ++ ys)), st) else none
  | a, b => match lsOf a st, lsOf b st with
    | some xs, some ys => if small (xs.length + ys.length) = true then some (.d (.list (xs ++ ys)), st) else none
    | _, _ => none
theorem o_add : OpR X (binaryOp .Add) (rO (rc X cl) vAdd) := by
  refine opR_imp (((op_add.or op_add_str).or op_catA).or op_cat) fun x y H Q h => ?_
  obtain ⟨G, m, st, a, b, rl, ra, rb, p⟩ := h
  unfold vAdd at p
  split at p
  · cases ra with
    | d ra =>
      cases ra
      cases rb with
      | d rb => cases rb; exact .inl (.inl (.inl ⟨_, _, rfl, rfl, p _ H G m (Ext.refl _ _ _) rl (.d (.int _))⟩))
  · split at p
    · rename_i hs
      cases ra with
      | d ra =>
        cases ra
        cases rb with
        | d rb => cases rb; exact .inl (.inl (.inr ⟨_, _, rfl, rfl, small_is hs, p _ H G m (Ext.refl _ _ _) rl (.d (.str _))⟩))
    · exact p.elim
  · rename_i xs ys
    split at p
    · rename_i hs
      cases ra with
      | d ra =>
        cases rb with
        | d rb =>
          cases ra with
          | tup qa sa =>
            cases rb with
            | tup qb sb =>
              refine .inl (.inr ⟨_, _, _, _, rfl, rfl, SqT.sub rl.sub qa, SqT.sub rl.sub qb, by rw [sa.length, sb.length]; exact small_is hs, fun e => ?_, fun e1 e2 => ?_, fun e1 e2 q hq => ?_⟩)
              · have z : xs = [] := List.eq_nil_of_length_eq_zero (by rw [← sa.length, e]; rfl)
                subst z
                exact p _ H G m (Ext.refl _ _ _) rl (.d (.tup qb sb))
              · have z : ys = [] := List.eq_nil_of_length_eq_zero (by rw [← sb.length, e2]; rfl)
                subst z
                refine p _ H G m (Ext.refl _ _ _) rl (.d ?_)
                rw [List.append_nil]; exact .tup qa sa
              · exact new_tup rl hq (sa.append sb) p
    · exact p.elim
  · split at p
    · rename_i xs ys hx hy
      split at p
      · rename_i hs
        obtain ⟨pa, va, rfl, ha, sa⟩ := ls_of rl ra hx
        obtain ⟨pb, vb, rfl, hb, sb⟩ := ls_of rl rb hy
        exact .inr ⟨pa, pb, va, vb, rfl, rfl, ha, hb, by rw [sa.length, sb.length]; exact small_is hs, fun q hq => new_lst rl hq (sa.append sb) p⟩
      · exact p.elim
    · exact p.elim
end
end Mi
end

section
set_option maxRecDepth 100000
set_option autoImplicit false
namespace L2
open PySem PySem.Spec PyProof.Rows
theorem tuple_mul1 (l : Addr) (items : Array Value) (n : Nat) (dd : Option Addr) (sl : Array (Option Value)) (u : Tok) :
    Meets (Builtin.«tuple.__mul__» ⟨[.ref l, .int 1 u], []⟩) (fun _ R s => s.heap.get? l = some { cls := .type "tuple", dict := dd, data := .seq items n, slots := sl } ∧ R (.ok (.ret (Value.ref l))) s) :=
  .of_wp fun prog w A R s h => by
    obtain ⟨hp, g, d, tk, os⟩ := s
    obtain ⟨hl, h⟩ := h
    have f1 := AutoSeq1.idx_int
    wp_walk using wpAny_loadPart' hl
    repeat (first
      | (refine wpAny_ite_false (decide_eq_false (by decide)) ?_; wp_walk using wpAny_loadPart' hl)
      | (refine wpAny_ite_true (decide_eq_true (by simp)) ?_; wp_walk using wpAny_loadPart' hl))
    exact ⟨_, rfl, h⟩
theorem op_rep1 {X : Cx} : OpR X (binaryOp .Mult) (fun x y H Q => ∃ l xs, x = .ref l ∧ y = .int 1 ∧ SqT X.K H l xs ∧ Q (.ref l) H) := by
  intro pins s σ H x y v u Q I rx ry h
  obtain ⟨l, xs, rfl, rfl, hT, q⟩ := h
  cases rx
  obtain ⟨t, rfl⟩ := ry
  obtain ⟨its, r, ⟨⟨cls, dd, data, sl⟩, ho, hc, n, hd⟩, hs⟩ := I.tuple hT
  simp only at hc hd
  subst hc hd
  exact wpAny_binaryOp_repeat_ref (T := "tuple") (U := "int") (by decide) ⟨_, ho, rfl⟩ (fun s' => typeIs_int s' 1 t) noFill_tuple_mul F.fills_int_mul F.slot_int_rmul repeat_tuple F.slot_int_index.lookup
    (call_meets F.slot_int_rmul (typeIs_int s 1 t) F.entry_int_rmul (F.args_int_rmul_2 _ _) (int_rmul_tuple 1 t l its.toArray n dd sl)
      ⟨ho, rfl, ⟨_, ho, rfl⟩, call_meets F.slot_tuple_mul ⟨_, ho, rfl⟩ F.entry_tuple_mul (F.args_tuple_mul_2 _ _) (tuple_mul1 l its.toArray n dd sl t) ⟨ho, ⟨.ref l, H, I, rfl, q⟩⟩⟩)
end L2
namespace Mi
open PySem PySem.Spec L2
def cut {α : Type} (xs : List α) (lo hi : Option Int) : List α := (xs.drop (HT.sIx xs.length 0 lo)).take (HT.sIx xs.length xs.length hi - HT.sIx xs.length 0 lo)
section
variable {C : RC} {G : Hp} {vs : List V} {ds : List D}
theorem RepAll.rep (h : RepAll C G vs ds) : ∀ n : Nat, RepAll C G (List.replicate n vs).flatten (List.replicate n ds).flatten
  | 0 => .nil
  | n + 1 => by
    rw [List.replicate_succ, List.replicate_succ, List.flatten_cons, List.flatten_cons]
    exact h.append (RepAll.rep h n)
theorem atI_rep (h : RepAll C G vs ds) {i : Int} {d : D} (e : atI ds i = some d) : ∃ v, atI vs i = some v ∧ Rep C G v d := by
  unfold atI at e ⊢
  rw [h.length]
  cases q : ixN ds.length i with
  | none => rw [q] at e; cases e
  | some j =>
    rw [q] at e
    exact h.get e
theorem cutV_rep (h : RepAll C G vs ds) (lo hi : Option Int) : RepAll C G (cutV vs lo hi) (cut ds lo hi) := by
  unfold cutV cut
  rw [h.length]
  exact (h.drop _).take _
end
def vMul (a b : Val) (st : Sto) : Option (Val × Sto) := match a, b with
  | .d (.int i), .d (.int j) => (iMul i j).map fun z => (.d z, st)
  | .d (.tuple xs), .d (.int k) => if k = 1 then some (.d (.tuple xs), st) else if xs ≠ [] ∧ 2 ≤ k ∧ k ≤ 1000 ∧ xs.length ≤ 1000 then some (.d (.tuple (List.replicate k.toNat xs).flatten), st) else none
  | a, .d (.int k) => match lsOf a st with
    | some xs => if 0 ≤ k ∧ k ≤ 1000 ∧ xs.length ≤ 1000 then some (.d (.list (List.replicate k.toNat xs).flatten), st) else none
    | none => none
  | _, _ => none
section
variable {cl : Nat → Addr} {X : Cx} {W : WX} {pos : Pos}
theorem o_mul : OpR X (binaryOp .Mult) (rO (rc X cl) vMul) := by
  refine opR_imp (((op_mul.or op_repT).or op_rep1).or op_rep) fun x y H Q h => ?_
  obtain ⟨G, m, st, a, b, rl, ra, rb, p⟩ := h
  unfold vMul at p
  split at p
  · rename_i i j
    cases ra with
    | d ra =>
      cases ra
      cases rb with
      | d rb =>
        cases rb
        unfold iMul at p
        split at p
        · rename_i c
          exact .inl (.inl (.inl ⟨_, _, rfl, rfl, c, p _ H G m (Ext.refl _ _ _) rl (.d (.int _))⟩))
        · exact p.elim
  · rename_i xs k
    cases rb with
    | d rb =>
      cases rb
      cases ra with
      | d ra =>
        cases ra with
        | tup qa sa =>
          split at p
          · rename_i hk
            subst hk
            exact .inl (.inr ⟨_, _, rfl, rfl, SqT.sub rl.sub qa, p _ H G m (Ext.refl _ _ _) rl (.d (.tup qa sa))⟩)
          · split at p
            · rename_i c
              obtain ⟨c1, c2, c3, c4⟩ := c
              refine .inl (.inl (.inr ⟨_, k, _, rfl, rfl, SqT.sub rl.sub qa, fun e => c1 (List.eq_nil_of_length_eq_zero (by rw [← sa.length, e]; rfl)), c2, c3, by rw [sa.length]; exact c4, fun q hq => new_tup rl hq (sa.rep _) p⟩))
            · exact p.elim
  · rename_i a' b' k n1 n2
    cases rb with
    | d rb =>
      cases rb
      split at p
      · rename_i xs hx
        split at p
        · rename_i c
          obtain ⟨c1, c2, c3⟩ := c
          obtain ⟨pa, va, rfl, ha, sa⟩ := ls_of rl ra hx
          refine .inr ⟨pa, k, va, rfl, rfl, ha, by omega, by omega, ?_, fun q hq => new_lst rl hq (sa.rep _) p⟩
          rw [sa.length, sizeLine_eq]
          have : xs.length * k.toNat ≤ 1000 * 1000 := Nat.mul_le_mul c3 (by omega)
          omega
        · exact p.elim
      · exact p.elim
  · exact p.elim

/-! ### subscripts -/
def vIx (a b : Val) (st : Sto) : Option (Val × Sto) := match b with
  | .d (.int i) => (match a with
    | .s ns => (atI ns i).map fun z => (.d (.int z), st)
    | a => match sqOf a st with
      | some xs => (atI xs i).map fun z => (.d z, st)
      | none => none)
  | _ => none
theorem ix_any : IxR X (rO (rc X cl) vIx) := by
  intro value slice pins s σ H x y v u Q I rx ry h hs
  refine ix_seq value slice pins s σ H x y v u Q I rx ry ?_ hs
  obtain ⟨G, m, st, a, b, rl, ra, rb, p⟩ := h
  unfold vIx at p
  split at p
  · rename_i i
    cases rb with
    | d rb =>
      cases rb
      split at p
      · rename_i ns
        cases ra with
        | s q =>
          cases e : atI ns i with
          | none => rw [e] at p; exact p.elim
          | some z =>
            rw [e] at p
            refine .inl ⟨_, _, i, .int z, rfl, rfl, SqL.sub rl.sub q, ?_, p _ H G m (Ext.refl _ _ _) rl (.d (.int _))⟩
            unfold atI at e ⊢
            rw [List.length_map]
            cases q : ixN ns.length i with
            | none => rw [q] at e; cases e
            | some j =>
              rw [q] at e
              simp only [Option.bind_some] at e ⊢
              rw [List.getElem?_map, e]; rfl
      · split at p
        · rename_i xs hx
          cases e : atI xs i with
          | none => rw [e] at p; exact p.elim
          | some z =>
            rw [e] at p
            obtain ⟨pa, va, rfl, k, sa⟩ := sq_of rl ra hx
            obtain ⟨w, hw, rw'⟩ := atI_rep sa e
            rcases k with k | k
            · exact .inl ⟨pa, va, i, w, rfl, rfl, SqL.of k, hw, p _ H G m (Ext.refl _ _ _) rl (.d rw')⟩
            · exact .inr (.inl ⟨pa, va, i, w, rfl, rfl, k, hw, p _ H G m (Ext.refl _ _ _) rl (.d rw')⟩)
        · exact p.elim
  · exact p.elim
variable {a b : Expr} {ea eb : EE}
theorem se_ix (ha : SE cl X W a ea) (hb : SE cl X W b eb) (hs : PlainIx b) : SE cl X W (.Subscript a b pos) (eOp vIx ea eb) := (pe_ix ix_any ha hb hs).impM fun _ _ _ h => tOp_of h
/-! slices -/
abbrev EO := Ev → Sto → R (Option Int)
def oNone : EO := fun _ st => .ok none st
def oSome (a : EE) : EO := fun env st => (a env st).bind fun v s => match v with
  | .d (.int i) => .ok (some i) s
  | _ => .bad
def relO (_ : Hp) (_ : List Addr) (x : Option Int) (v : Option Int) : Prop := x = v
def tO (C : RC) (W : WX) (ev : EO) : TO := fun σ H Q => ∃ G m env st, Rl C G m H st ∧ EnvR C G m σ env ∧ Post C relO G m H Q (fun c d H' => W c d σ H') (ev env st)
abbrev SO (cl : Nat → Addr) (X : Cx) (W : WX) (e : Option Expr) (ev : EO) : Prop := PO X e (tO (rc X cl) W ev)
theorem _root_.L2.PO.impM {e : Option Expr} {t t' : TO} (h : PO X e t) (i : ∀ σ H Q, t' σ H Q → t σ H Q) : PO X e t' := ⟨fun pins s σ H Q I q => h.run pins s σ H Q I (i _ _ _ q)⟩
theorem so_none : SO cl X W none oNone := po_none.impM fun σ H Q h => by
  obtain ⟨G, m, env, st, rl, en, p⟩ := h
  exact p none H G m (Ext.refl _ _ _) rl rfl
theorem so_some (ha : SE cl X W a ea) : SO cl X W (some a) (oSome ea) := (po_some ha).impM fun σ H Q h => by
  obtain ⟨G, m, env, st, rl, en, p⟩ := h
  refine ⟨G, m, env, st, rl, en, Post.bindE p fun v s1 x H1 G1 m1 _ e1 rl1 r1 p1 => ?_⟩
  split at p1
  · rename_i i _
    cases r1 with
    | d r => cases r; exact ⟨i, rfl, p1 _ H1 G1 m1 (Ext.refl _ _ _) rl1 rfl⟩
  · exact p1.elim
def vSl (a : Val) (lo hi : Option Int) (st : Sto) : Option (Val × Sto) := match a with
  | .d (.tuple xs) => some (.d (.tuple (cut xs lo hi)), st)
  | a => match lsOf a st with
    | some xs => some (.d (.list (cut xs lo hi)), st)
    | none => none
def eSl (a : EE) (lo hi : EO) : EE := fun env st => (a env st).bind fun x s1 => (lo env s1).bind fun l s2 => (hi env s2).bind fun h s3 => R.of (vSl x l h s3)
theorem cut_whole {α : Type} {xs : List α} {lo hi : Option Int} (h : HT.sIx xs.length 0 lo = 0 ∧ HT.sIx xs.length xs.length hi = xs.length) : cut xs lo hi = xs := by
  unfold cut
  rw [h.1, h.2]
  simp
def rSA (C : RC) : V → Option Int → Option Int → Hp → VK → Prop := fun x lo hi H Q => ∃ G m st a, Rl C G m H st ∧ RepV C G m x a ∧ PostO C (RepV C) G m H Q (vSl a lo hi st)
theorem sl_any : SlR X (rSA (rc X cl)) := by
  intro pins s σ H x v vl vu lo hi sl Q I rx hs pl pu h
  refine (sl_tupA.or sl_list) pins s σ H x v vl vu lo hi sl Q I rx hs pl pu ?_
  obtain ⟨G, m, st, a, rl, ra, p⟩ := h
  unfold vSl at p
  split at p
  · cases ra with
    | d ra =>
      cases ra with
      | tup qa sa =>
        refine .inl ⟨_, _, rfl, SqT.sub rl.sub qa, fun e => ?_, fun e q hq => new_tup rl hq (cutV_rep sa lo hi) p⟩
        refine p _ H G m (Ext.refl _ _ _) rl (.d ?_)
        rw [sa.length] at e
        rw [cut_whole e]; exact .tup qa sa
  · split at p
    · rename_i xs hx
      obtain ⟨pa, va, rfl, ha, sa⟩ := ls_of rl ra hx
      exact .inr ⟨pa, va, rfl, SqL.of ha, fun q hq => new_lst rl hq (cutV_rep sa lo hi) p⟩
    · exact p.elim
theorem se_slice {lo hi : Option Expr} {p2 : Pos} {el eh : EO} (ha : SE cl X W a ea) (hl : SO cl X W lo el) (hh : SO cl X W hi eh) : SE cl X W (.Subscript a (.Slice lo hi none p2) pos) (eSl ea el eh) := (pe_slice sl_any ha hl hh).impM fun σ H Q h => by
  obtain ⟨G, m, env, st, rl, en, p⟩ := h
  refine ⟨G, m, env, st, rl, en, Post.bindE p fun v s1 x H1 G1 m1 _ e1 rl1 r1 p1 => ⟨G1, m1, env, s1, rl1, en.ext e1, Post.bindE p1 fun l s2 y H2 G2 m2 _ e2 rl2 r2 p2 => ⟨G2, m2, env, s2, rl2, (en.ext e1).ext e2, Post.bindE p2 fun h s3 z H3 G3 m3 _ e3 rl3 r3 p3 => ?_⟩⟩⟩
  cases (show y = l from r2)
  cases (show z = h from r3)
  exact ⟨G3, m3, s3, v, rl3, (r1.ext e2).ext e3, p3.of⟩

/-! ### displays -/
/-- a value that goes into a tuple, a list: a mutable list is given up -/
def toD (v : Val) (st : Sto) : Option (D × Sto) := match v with
  | .d x => some (x, st)
  | .r i => match st[i]? with
    | some (.lst xs) => some (.list xs, st.set i .gone)
    | _ => none
  | .s _ => none
  | .a _ _ => none
  | .c _ _ => none
  | .f _ => none
def toDs : List Val → Sto → Option (List D × Sto)
  | [], st => some ([], st)
  | v :: vs, st => match toD v st with
    | some (x, s1) => (match toDs vs s1 with
      | some (xs, s2) => some (x :: xs, s2)
      | none => none)
    | none => none
theorem toD_rep {C : RC} {G : Hp} {m : List Addr} {H : Hp} {st st' : Sto} {v : V} {a : Val} {x : D} (rl : Rl C G m H st) (r : RepV C G m v a) (h : toD a st = some (x, st')) : ∃ G', Rl C G' m H st' ∧ Ext G m H G' m H ∧ Rep C G' v x := by
  cases r with
  | d r => cases h; exact ⟨G, rl, Ext.refl _ _ _, r⟩
  | r q =>
    simp only [toD] at h
    split at h
    · rename_i xs e
      cases h
      exact rl.freeze q e
    · cases h
  | s q => cases h
  | a q => cases h
  | c q _ => cases h
  | f => cases h
theorem toDs_rep {C : RC} {m : List Addr} {H : Hp} : ∀ {as : List Val} {vs : List V} {xs : List D} {G : Hp} {st st' : Sto}, Rl C G m H st → RepVs C G m vs as → toDs as st = some (xs, st') → ∃ G', Rl C G' m H st' ∧ Ext G m H G' m H ∧ RepAll C G' vs xs
  | [], _, _, G, st, st', rl, r, h => by
    cases r
    cases h
    exact ⟨G, rl, Ext.refl _ _ _, .nil⟩
  | a :: as, _, _, G, st, st', rl, r, h => by
    cases r with
    | cons r1 r2 =>
      simp only [toDs] at h
      split at h
      · rename_i x s1 e1
        split at h
        · rename_i ys s2 e2
          cases h
          obtain ⟨G1, rl1, x1, q1⟩ := toD_rep rl r1 e1
          obtain ⟨G2, rl2, x2, q2⟩ := toDs_rep rl1 (r2.ext x1) e2
          exact ⟨G2, rl2, x1.trans x2, .cons (q1.sub x2.sub) q2⟩
        · cases h
      · cases h
def eTup (a : EA) : EE := fun env st => (a env st).bind fun vs s => match toDs vs s with
  | some (xs, s2) => if small xs.length = true then .ok (.d (.tuple xs)) s2 else .bad
  | none => .bad
def eLst (a : EA) : EE := fun env st => (a env st).bind fun vs s => match toDs vs s with
  | some (xs, s2) => if small xs.length = true then .ok (.d (.list xs)) s2 else .bad
  | none => .bad
/-- one that may be changed -/
def eLstR (a : EA) : EE := fun env st => (a env st).bind fun vs s => match toDs vs s with
  | some (xs, s2) => if small xs.length = true then .ok (.r s2.length) (s2 ++ [.lst xs]) else .bad
  | none => .bad
variable {es : List Expr} {er : EA}
theorem se_tup {k : Nat} (h : SA cl X W es er) : SE cl X W (.Tuple es k pos) (eTup er) := (pe_tup h).impM fun σ H Q h => by
  obtain ⟨G, m, env, st, rl, en, p⟩ := h
  refine ⟨G, m, env, st, rl, en, Post.bindE p fun v s1 x H1 G1 m1 _ e1 rl1 r1 p1 => ?_⟩
  split at p1
  · rename_i xs s2 e
    obtain ⟨G2, rl2, x2, q2⟩ := toDs_rep rl1 r1 e
    split at p1
    · rename_i hs
      exact ⟨by rw [q2.length]; exact small_is hs, fun q hq => new_tup rl2 hq q2 fun x H' G' m' ex => p1 x H' G' m' (x2.trans ex)⟩
    · exact p1.elim
  · exact p1.elim
theorem se_lst (h : SA cl X W es er) : SE cl X W (.List es pos) (eLst er) := (pe_lst h).impM fun σ H Q h => by
  obtain ⟨G, m, env, st, rl, en, p⟩ := h
  refine ⟨G, m, env, st, rl, en, Post.bindE p fun v s1 x H1 G1 m1 _ e1 rl1 r1 p1 => ?_⟩
  split at p1
  · rename_i xs s2 e
    obtain ⟨G2, rl2, x2, q2⟩ := toDs_rep rl1 r1 e
    split at p1
    · rename_i hs
      exact ⟨by rw [q2.length]; exact small_is hs, fun q hq => new_lst rl2 hq q2 fun x H' G' m' ex => p1 x H' G' m' (x2.trans ex)⟩
    · exact p1.elim
  · exact p1.elim
theorem se_lstR (h : SA cl X W es er) : SE cl X W (.List es pos) (eLstR er) := (pe_lst h).impM fun σ H Q h => by
  obtain ⟨G, m, env, st, rl, en, p⟩ := h
  refine ⟨G, m, env, st, rl, en, Post.bindE p fun v s1 x H1 G1 m1 _ e1 rl1 r1 p1 => ?_⟩
  split at p1
  · rename_i xs s2 e
    obtain ⟨G2, rl2, x2, q2⟩ := toDs_rep rl1 r1 e
    split at p1
    · rename_i hs
      exact ⟨by rw [q2.length]; exact small_is hs, fun q hq => new_ref rl2 hq q2 fun x H' G' m' ex => p1 x H' G' m' (x2.trans ex)⟩
    · exact p1.elim
  · exact p1.elim
end
end Mi
end

section
set_option maxRecDepth 100000
set_option autoImplicit false
namespace Mi
open PySem PySem.Spec L2

/-! ### calls of built-ins -/
abbrev BF := List Val → Sto → Option (Val × Sto)
def eCB (f : BF) (a : EA) : EE := fun env st => (a env st).bind fun vs s => R.of (f vs s)
def rC (C : RC) (f : BF) : List V → Hp → VK → Prop := fun xs H Q => ∃ G m st as, Rl C G m H st ∧ RepVs C G m xs as ∧ PostO C (RepV C) G m H Q (f as st)
theorem tCB_of {C : RC} {W : WX} {f : BF} {a : EA} {σ : L2.St} {H : Hp} {Q : VK} (h : tE C W (eCB f a) σ H Q) : tCB (rC C f) (tA C W a) σ H Q := by
  obtain ⟨G, m, env, st, rl, en, p⟩ := h
  exact ⟨G, m, env, st, rl, en, Post.bindE p fun v s1 x H1 G1 m1 _ e1 rl1 r1 p1 => ⟨G1, m1, s1, v, rl1, r1, p1.of⟩⟩
section
variable {cl : Nat → Addr} {X : Cx} {W : WX} {pos p : Pos} {a : Expr} {es : List Expr} {er : EA} {ea : EE} {x : Str} {f : BF}
theorem se_callB {id : String} (hc : CallR X (.builtin id) (rC (rc X cl) f)) (hg : Gl X x) (hm : X.mg x = none) (hv : bootBuiltins x = some (.builtin id)) (ha : SA cl X W (a :: es) er) (hn : x ≠ "__name__" := by decide) (hdb : (x == ("__debug__" : Str)) = false := by decide)
    (he : starEach (a :: es) X.env = (false, eval a X.env) :: starEach es X.env := by rfl) (hpl : (backTo pos (starEach es X.env)).any (·.1) = false := by rfl) : SE cl X W (.Call (.Name x p) (a :: es) [] pos) (eCB f er) :=
  (pe_callB hc hg hm hv ha hn hdb he hpl).impM fun _ _ _ h => tCB_of h
theorem se_callTy {T : String} (hc : CallR X (.type T) (rC (rc X cl) f)) (hg : Gl X x) (hm : X.mg x = none) (hv : bootBuiltins x = some (.type T)) (ha : SA cl X W (a :: es) er) (hn : x ≠ "__name__" := by decide) (hdb : (x == ("__debug__" : Str)) = false := by decide)
    (he : starEach (a :: es) X.env = (false, eval a X.env) :: starEach es X.env := by rfl) (hpl : (backTo pos (starEach es X.env)).any (·.1) = false := by rfl) : SE cl X W (.Call (.Name x p) (a :: es) [] pos) (eCB f er) :=
  (pe_callTy hc hg hm hv ha hn hdb he hpl).impM fun _ _ _ h => tCB_of h
theorem repVs1 {C : RC} {G : Hp} {m : List Addr} {xs : List V} {a : Val} (r : RepVs C G m xs [a]) : ∃ x, xs = [x] ∧ RepV C G m x a := by
  cases r with
  | cons r1 r2 => cases r2; exact ⟨_, rfl, r1⟩
theorem repVs2 {C : RC} {G : Hp} {m : List Addr} {xs : List V} {a b : Val} (r : RepVs C G m xs [a, b]) : ∃ x y, xs = [x, y] ∧ RepV C G m x a ∧ RepV C G m y b := by
  cases r with
  | cons r1 r2 =>
    obtain ⟨y, rfl, r3⟩ := repVs1 r2
    exact ⟨_, _, rfl, r1, r3⟩
/-! len -/
def lenOf (a : Val) (st : Sto) : Option Nat := match a with
  | .s ns => some ns.length
  | a => (sqOf a st).map List.length
def bLen : BF := fun as st => match as with
  | [a] => (lenOf a st).map fun (n : Nat) => (Val.d (.int (n : Int)), st)
  | _ => none
theorem c_len : CallR X (.builtin "len") (rC (rc X cl) bLen) := callR_imp call_len_seq fun xs H Q h => by
  obtain ⟨G, m, st, as, rl, ra, p⟩ := h
  unfold bLen at p
  split at p
  · obtain ⟨v, rfl, rv⟩ := repVs1 ra
    rename_i a
    cases e : lenOf a st with
    | none => rw [e] at p; exact p.elim
    | some n =>
      rw [e] at p
      unfold lenOf at e
      split at e
      · cases e
        cases rv with
        | s q => exact ⟨_, _, rfl, .inl (SqL.sub rl.sub q), by rw [List.length_map]; exact p _ H G m (Ext.refl _ _ _) rl (.d (.int _))⟩
      · cases e2 : sqOf a st with
        | none => rw [e2] at e; cases e
        | some ys =>
          rw [e2] at e
          cases e
          obtain ⟨q, vs, rfl, k, sa⟩ := sq_of rl rv e2
          rcases k with k | k
          · exact ⟨q, vs, rfl, .inl (SqL.of k), by rw [sa.length]; exact p _ H G m (Ext.refl _ _ _) rl (.d (.int _))⟩
          · exact ⟨q, vs, rfl, .inr k, by rw [sa.length]; exact p _ H G m (Ext.refl _ _ _) rl (.d (.int _))⟩
  · exact p.elim
/-! tuple, list -/
def bTuple : BF := fun as st => match as with
  | [a] => (sqOf a st).map fun xs => (.d (.tuple xs), st)
  | _ => none
theorem c_tuple : CallR X (.type "tuple") (rC (rc X cl) bTuple) := callR_imp call_tuple_of fun xs H Q h => by
  obtain ⟨G, m, st, as, rl, ra, p⟩ := h
  unfold bTuple at p
  split at p
  · obtain ⟨v, rfl, rv⟩ := repVs1 ra
    rename_i a
    cases e2 : sqOf a st with
    | none => rw [e2] at p; exact p.elim
    | some ys =>
      rw [e2] at p
      have e3 := e2
      unfold sqOf at e3
      split at e3
      · cases e3
        cases rv with
        | d r =>
          cases r with
          | tup g ra => exact ⟨_, _, rfl, .inr ⟨SqT.sub rl.sub g, p _ H G m (Ext.refl _ _ _) rl (.d (.tup g ra))⟩⟩
      · obtain ⟨q, vs, rfl, k, sa⟩ := ls_of rl rv e3
        exact ⟨q, vs, rfl, .inl ⟨SqL.of k, fun l hl => new_tup rl hl sa p⟩⟩
  · exact p.elim
def bList : BF := fun as st => match as with
  | [a] => (sqOf a st).map fun xs => (.d (.list xs), st)
  | _ => none
theorem c_list : CallR X (.type "list") (rC (rc X cl) bList) := callR_imp call_list_of fun xs H Q h => by
  obtain ⟨G, m, st, as, rl, ra, p⟩ := h
  unfold bList at p
  split at p
  · obtain ⟨v, rfl, rv⟩ := repVs1 ra
    rename_i a
    cases e2 : sqOf a st with
    | none => rw [e2] at p; exact p.elim
    | some ys =>
      rw [e2] at p
      obtain ⟨q, vs, rfl, k, sa⟩ := sq_of rl rv e2
      exact ⟨q, vs, rfl, k.imp SqL.of id, fun l hl => new_lst rl hl sa p⟩
  · exact p.elim
/-! all, any, max, sum, min -/
def bAll : BF := fun as st => match as with
  | [a] => (match lsOf a st with
    | some xs => (boolsOf xs).map fun bs => (.d (.bool (bs.all id)), st)
    | none => none)
  | _ => none
theorem c_all (hc : X.calm = true) : CallR X (.builtin "all") (rC (rc X cl) bAll) := callR_imp (cr_all hc) fun xs H Q h => by
  obtain ⟨G, m, st, as, rl, ra, p⟩ := h
  unfold bAll at p
  split at p
  · obtain ⟨v, rfl, rv⟩ := repVs1 ra
    split at p
    · rename_i ys e
      cases e2 : boolsOf ys with
      | none => rw [e2] at p; exact p.elim
      | some bs =>
        rw [e2] at p
        obtain ⟨q, vs, rfl, k, sa⟩ := ls_of rl rv e
        rw [boolsOf_eq e2] at sa
        rw [sa.bools] at k
        exact ⟨q, bs, rfl, SqL.of k, p _ H G m (Ext.refl _ _ _) rl (.d (.bl _))⟩
    · exact p.elim
  · exact p.elim
def bMin : BF := fun as st => match as with
  | [.d (.int i), .d (.int j)] => some (.d (.int (if j < i then j else i)), st)
  | _ => none
theorem c_min (hc : X.calm = true) : CallR X (.builtin "min") (rC (rc X cl) bMin) := callR_imp (call_min2 hc) fun xs H Q h => by
  obtain ⟨G, m, st, as, rl, ra, p⟩ := h
  unfold bMin at p
  split at p
  · obtain ⟨v, u, rfl, rv, ru⟩ := repVs2 ra
    cases rv with
    | d rv =>
      cases rv
      cases ru with
      | d ru => cases ru; exact ⟨_, _, rfl, p _ H G m (Ext.refl _ _ _) rl (.d (.int _))⟩
  · exact p.elim
def bInt : BF := fun as st => match as with
  | [.d (.int i)] => some (.d (.int i), st)
  | [.d (.bool b)] => some (.d (.int (if b then 1 else 0)), st)
  | _ => none
theorem c_int : CallR X (.type "int") (rC (rc X cl) bInt) := callR_imp call_int1 fun xs H Q h => by
  obtain ⟨G, m, st, as, rl, ra, p⟩ := h
  unfold bInt at p
  split at p
  · obtain ⟨v, rfl, rv⟩ := repVs1 ra
    cases rv with
    | d rv => cases rv; exact .inl ⟨_, rfl, p _ H G m (Ext.refl _ _ _) rl (.d (.int _))⟩
  · obtain ⟨v, rfl, rv⟩ := repVs1 ra
    cases rv with
    | d rv => cases rv; exact .inr ⟨_, rfl, p _ H G m (Ext.refl _ _ _) rl (.d (.int _))⟩
  · exact p.elim
/-! isinstance(x, a built-in class) -/
def tyOf (a : Val) (st : Sto) : Option String := match a with
  | .d .none => some "NoneType"
  | .d (.bool _) => some "bool"
  | .d (.int _) => some "int"
  | .d (.str _) => some "str"
  | .d (.list _) => some "list"
  | .d (.tuple _) => some "tuple"
  | .r i => (match st[i]? with
    | some (.lst _) => some "list"
    | _ => none)
  | _ => none
theorem tyX_tup {K : PySem.W.Frag} {H : Hp} {q : Addr} {xs : List V} (h : SqT K H q xs) : TyX K H (.ref q) (.type "tuple") := by
  rcases h with (h | ⟨o, h⟩) | ⟨o, its, n, h, hc, _⟩
  · exact .base (.tup h)
  · exact .fTuple h
  · exact .kTuple h hc
theorem ty_of {C : RC} {G : Hp} {m : List Addr} {H : Hp} {st : Sto} {v : V} {a : Val} {T : String} (rl : Rl C G m H st) (r : RepV C G m v a) (h : tyOf a st = some T) : TyX C.K H v (.type T) := by
  cases r with
  | d r =>
    cases r with
    | non => cases h; exact .base .non
    | bl b => cases h; exact .base (.bl b)
    | int b => cases h; exact .base (.int b)
    | str b => cases h; exact .base (.str b)
    | lst g ra => cases h; exact .base (.lst (rl.sub _ _ g))
    | tup g ra => cases h; exact tyX_tup (SqT.sub rl.sub g)
    | dK => cases h
    | dN => cases h
  | r q =>
    simp only [tyOf] at h
    split at h
    · rename_i ys e
      cases h
      obtain ⟨vs, hv, ra⟩ := rl.obj _ _ _ e q
      exact .base (.lst hv)
    · cases h
  | s q => cases h
  | a q => cases h
  | c q _ => cases h
  | f => cases h
def eIsi (T : String) (a : EE) : EE := fun env st => (a env st).bind fun v s => match tyOf v s with
  | some t => (match kitB t T with
    | some b => .ok (.d (.bool b)) s
    | none => .bad)
  | none => .bad
theorem se_isi {T : String} {y : Str} {p2 : Pos} (ha : SE cl X W a ea) (hg : Gl X "isinstance") (hm : X.mg "isinstance" = none) (hgT : Gl X y) (hmT : X.mg y = none) (hvT : bootBuiltins y = some (.type T)) (hn : y ≠ "__name__" := by decide) (hdb : (y == ("__debug__" : Str)) = false := by decide)
    (he : starEach [a, .Name y p2] X.env = (false, eval a X.env) :: starEach [.Name y p2] X.env := by rfl) (he2 : starEach [.Name y p2] X.env = (false, eval (.Name y p2) X.env) :: starEach [] X.env := by rfl) (hpl : (backTo pos (starEach [.Name y p2] X.env)).any (·.1) = false := by rfl) :
    SE cl X W (.Call (.Name "isinstance" p) [a, .Name y p2] [] pos) (eIsi T ea) :=
  (pe_callB call_isi hg hm (by decide +kernel) (pa_cons ha (pa_cons (pe_bltn (v := .ty T) hgT hmT hvT rfl hn hdb) pa_nil he2) he) (by decide) (by decide) he hpl).impM fun σ H Q h => by
  obtain ⟨G, m, env, st, rl, en, p⟩ := h
  refine ⟨G, m, env, st, rl, en, Post.bindE p fun v s1 x H1 G1 m1 _ e1 rl1 r1 p1 => ?_⟩
  split at p1
  · rename_i t et
    split at p1
    · rename_i b eb
      exact ⟨x, .ty T, .type t, .type T, b, rfl, .ty T, ty_of rl1 r1 et, kit_ty eb, p1 _ H1 G1 m1 (Ext.refl _ _ _) rl1 (.d (.bl _))⟩
    · exact p1.elim
  · exact p1.elim
end
end Mi
end

section
set_option maxRecDepth 100000
set_option autoImplicit false
namespace Mi
open PySem PySem.Spec L2

/-! ### defs -/
abbrev FN := List Val → Sto → R Val
def spF (C : RC) (n : Nat) (f : FN) : Sp := fun vs H Q E => ∃ G m st as, Rl C G m H st ∧ RepVs C G m vs as ∧ as.length = n ∧ Post C (RepV C) G m H Q E (f as st)
section
variable {cl : Nat → Addr} {X : Cx} {W : WX} {pos p : Pos} {a : Expr} {es : List Expr} {er : EA} {ea : EE} {x : Str} {k n : Nat} {f : FN} {fa : Addr} {fd : FuncData} {ps : List Str}
/-- at a def's end: what it made of its own is given up -/
def insOk (n : Nat) : Sto → Bool
  | [] => true
  | .ins _ fs :: r => (fs.all fun q => match q.2 with
    | .r i => decide (i < n)
    | .c _ _ => false
    | _ => true) && insOk n r
  | _ :: r => insOk n r
def fin (n : Nat) (v : Val) (st : Sto) : R Val := if insOk n (st.take n) = true then (match v with
    | .d x => .ok (.d x) (st.take n)
    | .s ns => .ok (.s ns) (st.take n)
    | .a _ _ => .bad
    | .c _ _ => .bad
    | .f _ => .bad
    | .r i => if i < n then .ok (.r i) (st.take n) else match st[i]? with
      | some (.lst xs) => .ok (.d (.list xs)) (st.take n)
      | _ => .bad) else .bad
def runF (N np : Nat) (ev : ES) : FN := fun as st => if as.length = np then (match ev (as.map some ++ List.replicate (N - np) none) st with
    | .ok (.nx _) s => fin st.length (.d .none) s
    | .ok (.rt v) s => fin st.length v s
    | .ok (.ex e _) s => if insOk st.length (s.take st.length) = true then .exc e (s.take st.length) else .bad
    | _ => .bad) else .bad
theorem insOk_mem : ∀ {n : Nat} {st : Sto}, insOk n st = true → ∀ {i c : Nat} {fs : List (Str × Val)}, st[i]? = some (.ins c fs) → ∀ q ∈ fs, ∀ j, q.2 = .r j → j < n
  | n, [], _, i, c, fs, e, q, hq, j, ej => by simp at e
  | n, o :: r, h, i, c, fs, e, q, hq, j, ej => by
    cases i with
    | zero =>
      simp at e
      subst e
      simp only [insOk, Bool.and_eq_true, List.all_eq_true] at h
      have := h.1 q hq
      rw [ej] at this
      exact of_decide_eq_true this
    | succ i =>
      have hr : insOk n r = true := by
        cases o with
        | ins c' fs' => simp only [insOk, Bool.and_eq_true] at h; exact h.2
        | lst _ => exact h
        | dK _ => exact h
        | dN _ => exact h
        | dL _ => exact h
        | gone => exact h
      exact insOk_mem hr (by simpa using e) q hq j ej
theorem insOk_c : ∀ {n : Nat} {st : Sto}, insOk n st = true → ∀ {i c : Nat} {fs : List (Str × Val)}, st[i]? = some (.ins c fs) → ∀ q ∈ fs, ∀ j y, q.2 ≠ .c j y
  | n, [], _, i, c, fs, e, q, hq, j, y => by simp at e
  | n, o :: r, h, i, c, fs, e, q, hq, j, y => by
    cases i with
    | zero =>
      simp at e
      subst e
      simp only [insOk, Bool.and_eq_true, List.all_eq_true] at h
      have := h.1 q hq
      intro ej
      rw [ej] at this
      cases this
    | succ i =>
      have hr : insOk n r = true := by
        cases o with
        | ins c' fs' => simp only [insOk, Bool.and_eq_true] at h; exact h.2
        | lst _ => exact h
        | dK _ => exact h
        | dN _ => exact h
        | dL _ => exact h
        | gone => exact h
      exact insOk_c hr (by simpa using e) q hq j y
theorem RepVs.cutM {C : RC} {G : Hp} {m m' : List Addr} (hm : ∀ i a, i < m.length → m'[i]? = some a → m[i]? = some a) : ∀ {vs : List V} {xs : List Val}, RepVs C G m' vs xs → (∀ x ∈ xs, ∀ j, x = .r j → j < m.length) → (∀ x ∈ xs, ∀ j y, x ≠ .c j y) → RepVs C G m vs xs
  | _, _, .nil, _, _ => .nil
  | _, _, .cons h r, k, kc => by
    refine .cons ?_ (RepVs.cutM hm r (fun x hx => k x (List.mem_cons_of_mem _ hx)) fun x hx => kc x (List.mem_cons_of_mem _ hx))
    cases h with
    | d h => exact .d h
    | s h => exact .s h
    | a h => exact .a h
    | c _ _ => exact absurd rfl (kc _ List.mem_cons_self _ _)
    | f => exact .f
    | r h => exact .r (hm _ _ (k _ List.mem_cons_self _ rfl) h)
/-- the store is cut back to what was there -/
theorem Rl.cut {C : RC} {G G' : Hp} {m m' : List Addr} {H H' : Hp} {st' : Sto} {n : Nat} (hn : m.length = n) (e : Ext G m H G' m' H') (r : Rl C G' m' H' st') (ok : insOk n (st'.take n) = true) : Rl C G' m H' (st'.take n) ∧ Ext G m H G' m H' := by
  have len : n ≤ m'.length := by
    cases n with
    | zero => exact Nat.zero_le _
    | succ k =>
      have : k < m.length := by omega
      have q := e.pre k m[k] (List.getElem?_eq_getElem this)
      have := (List.getElem?_eq_some_iff.mp q).1
      omega
  have same : ∀ (i : Nat) (a : Addr), i < m.length → m'[i]? = some a → m[i]? = some a := fun i a hi q => by
    have z := e.pre i m[i] (List.getElem?_eq_getElem hi)
    rw [q] at z
    cases z
    exact List.getElem?_eq_getElem hi
  have tk : ∀ (i : Nat) (o : MO), (st'.take n)[i]? = some o → st'[i]? = some o := fun i o q => by
    rw [List.getElem?_take] at q
    split at q
    · exact q
    · cases q
  have sub : m'.take n = m := by
    apply List.ext_getElem?
    intro i
    rw [List.getElem?_take]
    by_cases hi : i < n
    · rw [if_pos hi]
      rw [List.getElem?_eq_getElem (show i < m.length by omega)]
      exact e.pre i _ (List.getElem?_eq_getElem (by omega))
    · rw [if_neg hi, List.getElem?_eq_none (by omega)]
  refine ⟨⟨r.sub, ?_, ?_, fun a ha => r.liv a (by rw [← sub] at ha; exact List.mem_of_mem_take ha), fun i a o q1 q2 q3 => r.out i a o (e.pre i a q1) (tk i o q2) q3, fun i o a q1 q2 => ?_, fun j hj => ?_, fun a ha => r.clo a (by rw [← sub] at ha; exact List.mem_of_mem_take ha)⟩, ⟨e.sub, fun _ _ q => q, fun a o h k nt => e.frm a o h k nt, fun _ z => .inl z, e.gn, e.al⟩⟩
  · rw [List.length_take, ← r.len]; omega
  · rw [← sub]; exact r.nd.sublist (List.take_sublist _ _)
  · have z := r.obj i o a (tk i o q1) (e.pre i a q2)
    cases o with
    | lst xs => exact z
    | dK _ => exact z
    | dN _ => exact z
    | dL _ => exact z
    | gone => exact z
    | ins c fs =>
      obtain ⟨dx, vs, h1, h2, h3⟩ := z
      refine ⟨dx, vs, h1, h2, RepVs.cutM same h3 (fun x hx j ej => ?_) fun x hx j y => ?_⟩
      · obtain ⟨q, hq, eq⟩ := List.mem_map.mp hx
        rw [hn]
        exact insOk_mem ok q1 q hq j (by rw [eq]; exact ej)
      · obtain ⟨q, hq, eq⟩ := List.mem_map.mp hx
        rw [← eq]
        exact insOk_c ok q1 q hq j y
  · obtain ⟨ps, z1, z2, z3⟩ := r.tab j hj
    exact ⟨ps, z1, fun q => z2 (by rw [← sub] at q; exact List.mem_of_mem_take q), z3⟩
theorem envR_start {C : RC} {G : Hp} {m : List Addr} {N : List Str} {vs : List V} {as : List Val} (r : RepVs C G m vs as) (hl : vs.length ≤ N.length) : EnvR C G m (L2.start N vs) (as.map some ++ List.replicate (N.length - as.length) none) := by
  have e := r.length
  refine ⟨by simp [L2.start, e], fun i v q => ?_⟩
  unfold L2.start
  by_cases hi : i < as.length
  · rw [List.getElem?_append_left (by simpa using hi)] at q
    rw [List.getElem?_map] at q
    cases q2 : as[i]? with
    | none => rw [q2] at q; cases q
    | some b =>
      rw [q2] at q
      cases q
      obtain ⟨x, hx, rx⟩ := r.get q2
      exact ⟨x, by rw [List.getElem?_append_left (by simpa [e] using hi), List.getElem?_map, hx]; rfl, rx⟩
  · rw [List.getElem?_append_right (by simpa using hi)] at q
    rw [List.getElem?_replicate] at q
    split at q <;> cases q
theorem fn_sound_aux {w : World} {K : PySem.W.Frag} {N ps : List Str} {ev : ES} {cl : Nat → Addr} {vs : List V} {H : Hp} {Q : VK} {E : XK} (hle : ps.length ≤ N.length) (h : spF ⟨K, w, cl⟩ ps.length (runF N.length ps.length ev) vs H Q E) :
    tS ⟨K, w, cl⟩ (fun cls d _ H' => E cls d H') ev { nx := fun _ H' => Q .non H', rt := Q } (L2.start N vs) H := by
  obtain ⟨G, m, st, as, rl, ra, hl, p⟩ := h
  refine ⟨G, m, as.map some ++ List.replicate (N.length - ps.length) none, st, rl, ?_, ?_⟩
  · have := envR_start (N := N) ra (by rw [ra.length, hl]; exact hle)
    rw [hl] at this
    exact this
  · unfold runF at p
    rw [if_pos hl] at p
    have fz : ∀ {v : Val} {s1 : Sto}, Post ⟨K, w, cl⟩ (RepV ⟨K, w, cl⟩) G m H Q E (fin st.length v s1) → ∀ x H' G' m', Ext G m H G' m' H' → Rl ⟨K, w, cl⟩ G' m' H' s1 → RepV ⟨K, w, cl⟩ G' m' x v → Q x H' := fun {v s1} p x H' G' m' ex r1 rx => by
      unfold fin at p
      split at p
      · rename_i ok
        obtain ⟨r2, ex2⟩ := Rl.cut (n := st.length) rl.len ex r1 ok
        have z := rl.len
        have len : m.length ≤ m'.length := by
          cases hm : m.length with
          | zero => exact Nat.zero_le _
          | succ q =>
            have h1 : q < m.length := by omega
            have h2 := ex.pre q m[q] (List.getElem?_eq_getElem h1)
            have h3 := (List.getElem?_eq_some_iff.mp h2).1
            omega
        split at p
        · cases rx with
          | d rx => exact p x H' G' m ex2 r2 (.d rx)
        · cases rx with
          | s rx => exact p _ H' G' m ex2 r2 (.s rx)
        · exact p.elim
        · exact p.elim
        · exact p.elim
        · rename_i i
          cases rx with
          | r q =>
            split at p
            · rename_i hi
              refine p _ H' G' m ex2 r2 (.r ?_)
              have hz : i < m.length := by omega
              have w1 := ex.pre i m[i] (List.getElem?_eq_getElem hz)
              rw [q] at w1
              cases w1
              exact List.getElem?_eq_getElem hz
            · rename_i hi
              split at p
              · rename_i xs e
                obtain ⟨G2, r3, ex3, q3⟩ := r1.freeze q e
                have ok2 : insOk st.length ((s1.set i .gone).take st.length) = true := by
                  rw [List.take_set_of_le (Nat.not_lt.mp hi)]; exact ok
                obtain ⟨r4, ex4⟩ := Rl.cut (n := st.length) rl.len (ex.trans ex3) r3 ok2
                rw [List.take_set_of_le (Nat.not_lt.mp hi)] at r4
                exact p _ H' G2 m ex4 r4 (.d q3)
              · exact p.elim
      · exact p.elim
    split at p
    · rename_i env s1 e
      rw [e]
      exact fun σ' H' G' m' ex r1 _ => fz p .non H' G' m' ex r1 (.d .non)
    · rename_i v s1 e
      rw [e]
      exact fun x H' G' m' ex r1 rx => fz p x H' G' m' ex r1 rx
    · rename_i e1 env s1 e
      rw [e]
      split at p
      · rename_i ok
        intro cls d σ' H' G' m' ex r1 _ rx
        obtain ⟨r2, ex2⟩ := Rl.cut (n := st.length) rl.len ex r1 ok
        exact p cls d H' G' m ex2 r2 rx
      · exact p.elim
    · exact p.elim
end
end Mi
end

section
set_option maxRecDepth 100000
set_option autoImplicit false
namespace Mi
open PySem PySem.Spec L2

/-! ### statements -/
def sNx : ES := fun env st => .ok (.nx env) st
def sSeq (a b : ES) : ES := fun env st => match a env st with
  | .ok (.nx e) s => b e s
  | r => r
def sExpr (e : EE) : ES := fun env st => (e env st).bindS env fun _ s => .ok (.nx env) s
def sRet (e : EE) : ES := fun env st => (e env st).bindS env fun v s => .ok (.rt v) s
def sRetN : ES := fun _ st => .ok (.rt (.d .none)) st
def sIf (t : ET) (a b : ES) : ES := fun env st => (t env st).bindS env fun v s => match v with
  | true => a env s
  | false => b env s
def sSet (i : Nat) (e : EE) : ES := fun env st => (e env st).bindS env fun v s => .ok (.nx (env.set i (some v))) s
def sNever : ES := fun _ _ => .bad
section
variable {cl : Nat → Addr} {X : Cx} {W : WX} {pos : Pos} {a b c : Expr} {ea eb : EE} {ta : ET} {st : Stmt} {rest l1 l2 : List Stmt} {s1 s2 : ES}
theorem ss_nil : SSs cl X W [] sNx := pss_nil.impM fun D σ H h => by
  obtain ⟨G, m, env, st, rl, en, p⟩ := h
  exact p σ H G m (Ext.refl _ _ _) rl en
theorem PostS.seq {C : RC} {G : Hp} {m : List Addr} {H : Hp} {D D' : Ends} {env : Ev} {st : Sto} (h : PostS C G m H D W (sSeq s1 s2 env st))
    (k : ∀ e s, s1 env st = .ok (.nx e) s → ∀ σ' H' G' m', Ext G m H G' m' H' → Rl C G' m' H' s → EnvR C G' m' σ' e → PostS C G' m' H' D W (s2 e s) → D'.nx σ' H') (hr : D'.rt = D.rt) (hb : D'.bk = D.bk) (hc : D'.ct = D.ct) : PostS C G m H D' W (s1 env st) := by
  unfold sSeq at h
  cases e : s1 env st with
  | ok f s =>
    rw [e] at h
    cases f with
    | nx e' => exact fun σ' H' G' m' ex rl en => k e' s e σ' H' G' m' ex rl en (PostS.ext ex h)
    | rt v => exact fun x H' G' m' ex rl rx => by rw [hr]; exact h x H' G' m' ex rl rx
    | bk v => exact fun x H' G' m' ex rl rx => by rw [hb]; exact h x H' G' m' ex rl rx
    | ct v => exact fun x H' G' m' ex rl rx => by rw [hc]; exact h x H' G' m' ex rl rx
    | ex v w => exact h
  | exc e1 s => rw [e] at h; exact h
  | bad => rw [e] at h; exact h
theorem ss_cons (h1 : SS cl X W st s1) (h2 : SSs cl X W rest s2) : SSs cl X W (st :: rest) (sSeq s1 s2) := (pss_cons h1 h2).impM fun D σ H h => by
  obtain ⟨G, m, env, st, rl, en, p⟩ := h
  exact ⟨G, m, env, st, rl, en, PostS.seq p (fun e s _ σ' H' G' m' ex rl' en' q => ⟨G', m', e, s, rl', en', q⟩) rfl rfl rfl⟩
theorem ss_one (h1 : SS cl X W st s1) : SSs cl X W [st] s1 := pss_one h1
theorem ss_expr (he : SE cl X W a ea) (hs : swapsWith a none pos.line X.env = pure false := by rfl) : SS cl X W (.Expr a pos) (sExpr ea) := (ps_expr he hs).impM fun D σ H h => by
  obtain ⟨G, m, env, st, rl, en, p⟩ := h
  exact ⟨G, m, env, st, rl, en, Post.bindS en p fun v s1 x H1 G1 m1 _ e1 rl1 r1 p1 => p1 σ H1 G1 m1 (Ext.refl _ _ _) rl1 (en.ext e1)⟩
theorem ss_ret (he : SE cl X W a ea) : SS cl X W (.Return (some a) pos) (sRet ea) := (ps_ret he).impM fun D σ H h => by
  obtain ⟨G, m, env, st, rl, en, p⟩ := h
  exact ⟨G, m, env, st, rl, en, Post.bindS en p fun v s1 x H1 G1 m1 _ e1 rl1 r1 p1 => p1 x H1 G1 m1 (Ext.refl _ _ _) rl1 r1⟩
theorem ss_if (hc : ST cl X W c ta) (h1 : SSs cl X W l1 s1) (h2 : SSs cl X W l2 s2) : SS cl X W (.If c l1 l2 pos) (sIf ta s1 s2) := (ps_if hc h1 h2).impM fun D σ H h => by
  obtain ⟨G, m, env, st, rl, en, p⟩ := h
  refine ⟨G, m, env, st, rl, en, Post.bindS en p fun v s1 x H1 G1 m1 _ e1 rl1 r1 p1 => ?_⟩
  cases (show x = v from r1)
  cases v with
  | true => rw [if_pos rfl]; exact ⟨G1, m1, env, s1, rl1, en.ext e1, p1⟩
  | false => rw [if_neg (by decide)]; exact ⟨G1, m1, env, s1, rl1, en.ext e1, p1⟩
theorem ss_set {x : Str} {pos' : Pos} (i : Nat) (hN : X.N.Nodup) (hi : X.N[i]? = some x) (hx : Loc X.env.scope x) (he : SE cl X W a ea) (hs : swapsWith a (some (.Name x pos')) pos.line X.env = pure false := by rfl) (hf : X.fn x = true ∨ X.env.scope.names.lookup x = some .local := by first | exact .inl rfl | exact .inr rfl | assumption) :
    SS cl X W (.Assign [.Name x pos'] a pos) (sSet i ea) := (ps_set hN hi hx he hs hf).impM fun D σ H h => by
  obtain ⟨G, m, env, st, rl, en, p⟩ := h
  exact ⟨G, m, env, st, rl, en, Post.bindS en p fun v s1 x H1 G1 m1 _ e1 rl1 r1 p1 => p1 _ H1 G1 m1 (Ext.refl _ _ _) rl1 ((en.ext e1).set r1 i)⟩

/-! ### targets -/
inductive Tg where
  | nm (i : Nat)
  | tp (is : List Nat)
  | t2 (i : Nat) (is : List Nat)
def setAll : List Nat → List D → Ev → Ev
  | i :: is, x :: xs, env => setAll is xs (env.set i (some (.d x)))
  | _, _, env => env
def Tg.put : Tg → D → Ev → Option Ev
  | .nm i, d, env => some (env.set i (some (.d d)))
  | .tp is, .tuple xs, env => if xs.length = is.length then some (setAll is xs env) else none
  | .tp _, _, _ => none
  | .t2 i is, .tuple [x, .tuple ys], env => if ys.length = is.length then some (setAll is ys (env.set i (some (.d x)))) else none
  | .t2 _ _, _, _ => none
def Tg.slots : Tg → List Nat
  | .nm i => [i]
  | .tp is => is
  | .t2 i is => i :: is
/-- slots outside a list are as they were -/
def Outside (vs : List Nat) (σ σ' : L2.St) : Prop := σ'.length = σ.length ∧ ∀ i : Nat, i ∉ vs → σ'[i]? = σ[i]?
theorem Outside.refl (vs : List Nat) (σ : L2.St) : Outside vs σ σ := ⟨rfl, fun _ _ => rfl⟩
def gAll : List Nat → TGs
  | [] => gNil
  | i :: is => gCons (gName i) (gAll is)
def Tg.g (K : PySem.W.Frag) : Tg → TG
  | .nm i => gName i
  | .tp is => gTup K is.length (gAll is)
  | .t2 i is => gTup K 2 (gCons (gName i) (gCons (gTup K is.length (gAll is)) gNil))
theorem gAll_of {C : RC} {G : Hp} {m : List Addr} {H : Hp} : ∀ (is : List Nat) (vs : List V) (xs : List D) (σ : L2.St) (env : Ev) (Q : L2.St → Hp → Prop), EnvR C G m σ env → RepAll C G vs xs → xs.length = is.length →
    (∀ σ', Outside is σ σ' → EnvR C G m σ' (setAll is xs env) → Q σ' H) → gAll is vs σ H Q
  | [], _, [], σ, env, Q, en, r, hl, h => by cases r; exact ⟨rfl, h σ (Outside.refl _ _) en⟩
  | [], _, _ :: _, σ, env, Q, en, r, hl, h => by simp at hl
  | _ :: _, _, [], σ, env, Q, en, r, hl, h => by simp at hl
  | i :: is, _, x :: xs, σ, env, Q, en, r, hl, h => by
    cases r with
    | cons r1 r2 =>
      refine ⟨_, _, rfl, gAll_of is _ xs _ _ Q (en.set (.d r1) i) r2 (by simpa using hl) fun σ' o en' => h σ' ⟨by rw [o.1]; simp, fun j hj => ?_⟩ en'⟩
      rw [o.2 j (fun z => hj (List.mem_cons_of_mem _ z)), List.getElem?_set_ne (fun z => hj (by rw [z]; exact List.mem_cons_self))]
theorem Tg.g_of {C : RC} {G : Hp} {m : List Addr} {H : Hp} {st : Sto} {tg : Tg} {x : V} {d : D} {σ : L2.St} {env env' : Ev} {Q : L2.St → Hp → Prop} (rl : Rl C G m H st) (en : EnvR C G m σ env) (r : Rep C G x d) (h : tg.put d env = some env')
    (k : ∀ σ', Outside tg.slots σ σ' → EnvR C G m σ' env' → Q σ' H) : tg.g C.K x σ H Q := by
  cases tg with
  | nm i =>
    cases h
    refine k _ ⟨by simp, fun j hj => List.getElem?_set_ne (fun z => hj (by rw [z]; exact List.mem_cons_self))⟩ (en.set (.d r) i)
  | tp is =>
    cases r with
    | tup q ra =>
      simp only [Tg.put] at h
      split at h
      · rename_i hl
        cases h
        exact ⟨_, _, rfl, SqT.sub rl.sub q, by rw [ra.length]; exact hl, gAll_of is _ _ σ env Q en ra hl k⟩
      · cases h
    | non => cases h
    | bl => cases h
    | int => cases h
    | str => cases h
    | lst => cases h
    | dK => cases h
    | dN => cases h
  | t2 i is =>
    cases r with
    | tup q ra =>
      cases ra with
      | nil => cases h
      | cons r0 ra =>
        cases ra with
        | nil => cases h
        | cons r1 ra =>
          cases ra with
          | cons r2 ra => cases r1 <;> cases h
          | nil =>
            cases r1 with
            | tup q1 ra1 =>
              simp only [Tg.put] at h
              split at h
              · rename_i hl
                cases h
                refine ⟨_, _, rfl, SqT.sub rl.sub q, rfl, _, _, rfl, ?_⟩
                refine ⟨_, _, rfl, _, _, rfl, SqT.sub rl.sub q1, by rw [ra1.length]; exact hl, ?_⟩
                refine gAll_of is _ _ _ _ _ (en.set (.d r0) i) ra1 hl fun σ' o en' => ⟨rfl, k σ' ⟨by rw [o.1]; simp, fun j hj => ?_⟩ en'⟩
                rw [o.2 j (fun z => hj (List.mem_cons_of_mem _ z)), List.getElem?_set_ne (fun z => hj (by rw [z]; exact List.mem_cons_self))]
              · cases h
            | non => cases h
            | bl => cases h
            | int => cases h
            | str => cases h
            | lst => cases h
            | dK => cases h
            | dN => cases h
    | non => cases h
    | bl => cases h
    | int => cases h
    | str => cases h
    | lst => cases h
    | dK => cases h
    | dN => cases h
abbrev SG (X : Cx) (t : Expr) (tg : Tg) : Prop := PG X t (tg.g X.K)
theorem sg_name {x : Str} (i : Nat) (hN : X.N.Nodup) (hi : X.N[i]? = some x) (hx : Loc X.env.scope x) (hf : X.fn x = true ∨ X.env.scope.names.lookup x = some .local := by first | exact .inl rfl | exact .inr rfl | assumption) : SG X (.Name x pos) (.nm i) := pg_name hN hi hx hf
theorem sg_tup {es : List Expr} {k : Nat} {is : List Nat} (hc : X.calm = true) (h : PGs X es (gAll is)) (hn : (assignEach es X.env).length = is.length := by rfl) (hst : (assignEach es X.env).findIdx? (·.1) = none := by rfl) : SG X (.Tuple es k pos) (.tp is) := pg_tup hc h hn hst
theorem sgs_nil : PGs X [] (gAll []) := pgs_nil
theorem sgs_cons {x : Str} {es : List Expr} (i : Nat) {is : List Nat} (hN : X.N.Nodup) (hi : X.N[i]? = some x) (hx : Loc X.env.scope x) (h2 : PGs X es (gAll is)) (hf : X.fn x = true ∨ X.env.scope.names.lookup x = some .local := by first | exact .inl rfl | exact .inr rfl | assumption)
    (hs : (assignEach (.Name x pos :: es) X.env).map (·.2) = assign (.Name x pos) X.env :: (assignEach es X.env).map (·.2) := by rfl) : PGs X (.Name x pos :: es) (gAll (i :: is)) := pgs_cons (pg_name hN hi hx hf) h2 hs
def sSetT (tg : Tg) (e : EE) : ES := fun env st => (e env st).bindS env fun v s => match v with
  | .d d => (match tg.put d env with
    | some env' => .ok (.nx env') s
    | none => .bad)
  | _ => .bad
theorem ss_setT {t : Expr} {tg : Tg} (he : SE cl X W a ea) (hg : SG X t tg) (hs : swapsWithSole [t] a pos.line X.env = pure false := by rfl) (hw : swappedStores [t] a X.env = pure none := by rfl)
    (h1 : (assignEach [t] X.env).map (·.2) = [assign t X.env] := by rfl) : SS cl X W (.Assign [t] a pos) (sSetT tg ea) := (ps_asg he hg hs hw h1).impM fun D σ H h => by
  obtain ⟨G, m, env, st, rl, en, p⟩ := h
  refine ⟨G, m, env, st, rl, en, Post.bindS en p fun v s1 x H1 G1 m1 _ e1 rl1 r1 p1 => ?_⟩
  split at p1
  · split at p1
    · rename_i env' e
      cases r1 with
      | d r => exact Tg.g_of rl1 (en.ext e1) r e fun σ' _ en' => p1 σ' H1 G1 m1 (Ext.refl _ _ _) rl1 en'
    · exact p1.elim
  · exact p1.elim
/-- a, b = x, y -/
def setVs : List Nat → List Val → Ev → Ev
  | i :: is, x :: xs, env => setVs is xs (env.set i (some x))
  | _, _, env => env
def sParN (is : List Nat) (ea : EA) : ES := fun env st => (ea env st).bindS env fun vs s => if vs.length = is.length then .ok (.nx (setVs is vs env)) s else .bad
theorem ss_par {x y : Str} {er : EA} {px py pt : Pos} {kt k2 : Nat} {pt2 : Pos} (i j : Nat) (hc : X.calm = true) (hN : X.N.Nodup) (hi : X.N[i]? = some x) (hj : X.N[j]? = some y) (hij : i ≠ j)
    (hx : X.env.scope.names.lookup x = some .local) (hy : X.env.scope.names.lookup y = some .local) (ha : SA cl X W [a, b] er)
    (hw : swappedStores [.Tuple [.Name x px, .Name y py] kt pt] (.Tuple [a, b] k2 pt2) X.env = pure (some [x, y]))
    (hs : swapsWithSole [.Tuple [.Name x px, .Name y py] kt pt] (.Tuple [a, b] k2 pt2) pos.line X.env = pure false := by rfl) :
    SS cl X W (.Assign [.Tuple [.Name x px, .Name y py] kt pt] (.Tuple [a, b] k2 pt2) pos) (sParN [i, j] er) := (ps_par hc hN hi hj hij hx hy ha hw hs).impM fun D σ H h => by
  obtain ⟨G, m, env, st, rl, en, p⟩ := h
  refine ⟨G, m, env, st, rl, en, Post.bindS en p fun v s1 x H1 G1 m1 _ e1 rl1 r1 p1 => ?_⟩
  split at p1
  · rename_i hl
    match v, hl with
    | [w1, w2], _ =>
      obtain ⟨v1, v2, rfl, q1, q2⟩ := repVs2 r1
      exact ⟨v1, v2, rfl, p1 _ H1 G1 m1 (Ext.refl _ _ _) rl1 (((en.ext e1).set q1 i).set q2 j)⟩
  · exact p1.elim
end
end Mi
end

section
set_option maxRecDepth 100000
set_option autoImplicit false
namespace Mi
open PySem PySem.Spec L2

/-! ### what is walked -/
abbrev EI := Ev → Sto → R (List D)
structure Iters (C : RC) (G : Hp) (J : It) (xs : List D) : Prop where
  go : ∀ {G1 : Hp} {m1 : List Addr} {H : Hp} {st1 : Sto} {i : Nat}, Sub G G1 → Rl C G1 m1 H st1 → i < xs.length → J.go i H
  yld : ∀ {G1 : Hp} {m1 : List Addr} {H : Hp} {st1 : Sto} {i : Nat} {x : V} {H' : Hp} {d : D}, Sub G G1 → Rl C G1 m1 H st1 → J.yld i H x H' → xs[i]? = some d → ∃ G2, Ext G1 m1 H G2 m1 H' ∧ Rl C G2 m1 H' st1 ∧ Rep C G2 x d
  stop : ∀ {G1 : Hp} {m1 : List Addr} {H : Hp} {st1 : Sto} {i : Nat}, Sub G G1 → Rl C G1 m1 H st1 → xs.length ≤ i → J.stop i H
def relI (C : RC) (G : Hp) (_ : List Addr) (J : It) (xs : List D) : Prop := Iters C G J xs
def tI (C : RC) (W : WX) (ei : EI) : TI := fun σ H Q => ∃ G m env st, Rl C G m H st ∧ EnvR C G m σ env ∧ Post C (relI C) G m H Q (fun c d H' => W c d σ H') (ei env st)
abbrev SI (cl : Nat → Addr) (X : Cx) (W : WX) (t iter : Expr) (ei : EI) : Prop := PI X t iter (tI (rc X cl) W ei)
theorem iters_list {C : RC} {G : Hp} {a : Addr} {vs : List V} {xs : List D} (h : G a = some (.lst vs)) (r : RepAll C G vs xs) : Iters C G (Itl C.K a) xs where
  go := fun {G1 m1 H st1 i} s rl hi => by
    have q : SqL C.K H a vs := SqL.of (rl.sub _ _ (s _ _ h))
    have e : xs[i]? = some xs[i] := List.getElem?_eq_getElem hi
    obtain ⟨v, hv, _⟩ := r.get e
    exact ⟨vs, v, q, hv⟩
  yld := fun {G1 m1 H st1 i x H' d} s rl y e => by
    obtain ⟨rfl, y⟩ := y
    obtain ⟨v, hv, rv⟩ := r.get e
    have z := y vs (SqL.of (rl.sub _ _ (s _ _ h)))
    rw [hv] at z
    cases z
    exact ⟨G1, Ext.refl _ _ _, rl, rv.sub s⟩
  stop := fun {G1 m1 H st1 i} s rl hi => ⟨vs, SqL.of (rl.sub _ _ (s _ _ h)), by rw [r.length]; exact hi⟩
theorem iters_range {C : RC} {G : Hp} (lo : Int) (n : Nat) : Iters C G (Itr lo n) ((List.range n).map fun k => PyData.int (lo + (k : Nat))) where
  go := fun {G1 m1 H st1 i} s rl hi => by simpa [Itr] using hi
  yld := fun {G1 m1 H st1 i x H' d} s rl y e => by
    obtain ⟨rfl, rfl⟩ := y
    have : d = .int (lo + i) := by
      rw [List.getElem?_map] at e
      cases q : (List.range n)[i]? with
      | none => rw [q] at e; cases e
      | some k =>
        rw [q] at e
        have := List.getElem?_range (n := n) (i := i)
        obtain ⟨hl, z⟩ := List.getElem?_eq_some_iff.mp q
        rw [List.getElem_range] at z
        subst z
        cases e; rfl
    subst this
    exact ⟨G1, Ext.refl _ _ _, rl, .int _⟩
  stop := fun {G1 m1 H st1 i} s rl hi => by simpa [Itr] using hi
/-- two side by side -/
def zipD (xs ys : List D) : List D := List.zipWith (fun x y => PyData.tuple [x, y]) xs ys
theorem zipD_get {xs ys : List D} {i : Nat} {d : D} (h : (zipD xs ys)[i]? = some d) : ∃ x y, xs[i]? = some x ∧ ys[i]? = some y ∧ d = .tuple [x, y] := by
  unfold zipD at h
  rw [List.getElem?_zipWith] at h
  cases e1 : xs[i]? with
  | none => rw [e1] at h; simp at h
  | some x =>
    cases e2 : ys[i]? with
    | none => rw [e1, e2] at h; simp at h
    | some y => rw [e1, e2] at h; simp at h; exact ⟨x, y, rfl, rfl, h.symm⟩
theorem iters_zipL {C : RC} {G : Hp} {a b : Addr} {vs us : List V} {xs ys : List D} (ha : G a = some (.lst vs)) (hb : G b = some (.lst us)) (ra : RepAll C G vs xs) (rb : RepAll C G us ys) : Iters C G (Itz C.K a b) (zipD xs ys) where
  go := fun {G1 m1 H st1 i} s rl hi => by
    obtain ⟨x, y, e1, e2, _⟩ := zipD_get (List.getElem?_eq_getElem hi)
    obtain ⟨v, hv, _⟩ := ra.get e1
    obtain ⟨u, hu, _⟩ := rb.get e2
    exact ⟨vs, us, v, u, SqL.of (rl.sub _ _ (s _ _ ha)), SqL.of (rl.sub _ _ (s _ _ hb)), hv, hu⟩
  yld := fun {G1 m1 H st1 i x H' d} s rl y e => by
    obtain ⟨T, x1, y1, rfl, hT, rfl, q1, q2⟩ := y
    obtain ⟨x, y, e1, e2, rfl⟩ := zipD_get e
    obtain ⟨v, hv, rv⟩ := ra.get e1
    obtain ⟨u, hu, ru⟩ := rb.get e2
    have z1 := q1 vs (SqL.of (rl.sub _ _ (s _ _ ha)))
    have z2 := q2 us (SqL.of (rl.sub _ _ (s _ _ hb)))
    rw [hv] at z1; rw [hu] at z2
    cases z1; cases z2
    obtain ⟨r2, ex⟩ := rl.laid hT (.tup [x1, y1])
    exact ⟨_, ex, r2, .tup (SqT.of upd_same) (.cons ((rv.sub s).sub ex.sub) (.cons ((ru.sub s).sub ex.sub) .nil))⟩
  stop := fun {G1 m1 H st1 i} s rl hi => by
    refine ⟨vs, us, SqL.of (rl.sub _ _ (s _ _ ha)), SqL.of (rl.sub _ _ (s _ _ hb)), ?_⟩
    have : (zipD xs ys).length = min xs.length ys.length := by simp [zipD]
    rw [ra.length, rb.length]; omega
theorem iters_zipT {C : RC} {G : Hp} {a b : Addr} {vs us : List V} {xs ys : List D} (ha : SqT C.K G a vs) (hb : SqT C.K G b us) (ra : RepAll C G vs xs) (rb : RepAll C G us ys) : Iters C G (RZ.ItzT C.K a b) (zipD xs ys) where
  go := fun {G1 m1 H st1 i} s rl hi => by
    obtain ⟨x, y, e1, e2, _⟩ := zipD_get (List.getElem?_eq_getElem hi)
    obtain ⟨v, hv, _⟩ := ra.get e1
    obtain ⟨u, hu, _⟩ := rb.get e2
    exact ⟨vs, us, v, u, SqT.sub (s.trans rl.sub) ha, SqT.sub (s.trans rl.sub) hb, hv, hu⟩
  yld := fun {G1 m1 H st1 i x H' d} s rl y e => by
    obtain ⟨T, x1, y1, rfl, hT, rfl, q1, q2⟩ := y
    obtain ⟨x, y, e1, e2, rfl⟩ := zipD_get e
    obtain ⟨v, hv, rv⟩ := ra.get e1
    obtain ⟨u, hu, ru⟩ := rb.get e2
    have z1 := q1 vs (SqT.sub (s.trans rl.sub) ha)
    have z2 := q2 us (SqT.sub (s.trans rl.sub) hb)
    rw [hv] at z1; rw [hu] at z2
    cases z1; cases z2
    obtain ⟨r2, ex⟩ := rl.laid hT (.tup [x1, y1])
    exact ⟨_, ex, r2, .tup (SqT.of upd_same) (.cons ((rv.sub s).sub ex.sub) (.cons ((ru.sub s).sub ex.sub) .nil))⟩
  stop := fun {G1 m1 H st1 i} s rl hi => by
    refine ⟨vs, us, SqT.sub (s.trans rl.sub) ha, SqT.sub (s.trans rl.sub) hb, ?_⟩
    have : (zipD xs ys).length = min xs.length ys.length := by simp [zipD]
    rw [ra.length, rb.length]; omega
def enumD : Nat → List D → List D
  | _, [] => []
  | k, x :: xs => .tuple [.int (k : Nat), x] :: enumD (k + 1) xs
section
variable {cl : Nat → Addr} {X : Cx} {W : WX} {pos p tpos : Pos} {t a b : Expr} {ea eb : EE}
theorem _root_.L2.PI.impM {iter : Expr} {w w' : TI} (h : PI X t iter w) (i : ∀ σ H Q, w' σ H Q → w σ H Q) : PI X t iter w' := ⟨fun pins s σ H Q I q => h.run pins s σ H Q I (i _ _ _ q)⟩
theorem pi_or {iter : Expr} {w w' : TI} (h : PI X t iter w) (h' : PI X t iter w') : PI X t iter (fun σ H Q => w σ H Q ∨ w' σ H Q) := ⟨fun pins s σ H Q I q => q.elim (h.run pins s σ H Q I) (h'.run pins s σ H Q I)⟩
/-- a list or a tuple that stays as it is -/
def iSeq (e : EE) : EI := fun env st => (e env st).bind fun v s => match v with
  | .d (.list xs) => .ok xs s
  | .d (.tuple xs) => .ok xs s
  | _ => .bad
theorem si_seq (he : SE cl X W a ea) : SI cl X W t a (iSeq ea) := by
  refine (pi_or (pi_list he) (pi_tup he)).impM fun σ H Q h => ?_
  obtain ⟨G, m, env, st, rl, en, p⟩ := h
  have hp := p
  unfold iSeq at p
  cases e : ea env st with
  | bad => rw [e] at p; exact p.elim
  | exc x s => exact .inl ⟨G, m, env, st, rl, en, by rw [e] at p ⊢; exact p⟩
  | ok v s =>
    rw [e] at p
    simp only [R.bind_ok] at p
    split at p
    · refine .inl ⟨G, m, env, st, rl, en, ?_⟩
      rw [e]
      intro x H1 G1 m1 e1 rl1 r1
      cases r1 with
      | d r =>
        cases r with
        | lst g ra => exact ⟨_, rfl, ⟨_, SqL.of (rl1.sub _ _ g)⟩, p _ H1 G1 m1 e1 rl1 (iters_list g ra)⟩
    · refine .inr ⟨G, m, env, st, rl, en, ?_⟩
      rw [e]
      intro x H1 G1 m1 e1 rl1 r1
      cases r1 with
      | d r =>
        cases r with
        | tup g ra =>
          refine ⟨_, rfl, ⟨_, SqT.sub rl1.sub g⟩, p _ H1 G1 m1 e1 rl1 ⟨fun {G2 m2 H2 st2 i} s rl2 hi => ?_, fun {G2 m2 H2 st2 i y H3 d} s rl2 yy e2 => ?_, fun {G2 m2 H2 st2 i} s rl2 hi => ?_⟩⟩
          · obtain ⟨v, hv, _⟩ := ra.get (List.getElem?_eq_getElem hi)
            exact ⟨_, v, SqT.sub (s.trans rl2.sub) g, hv⟩
          · obtain ⟨rfl, yy⟩ := yy
            obtain ⟨v, hv, rv⟩ := ra.get e2
            have z := yy _ (SqT.sub (s.trans rl2.sub) g)
            rw [hv] at z
            cases z
            exact ⟨G2, Ext.refl _ _ _, rl2, rv.sub s⟩
          · exact ⟨_, SqT.sub (s.trans rl2.sub) g, by rw [ra.length]; exact hi⟩
    · exact p.elim
def iRange (a : EA) : EI := fun env st => (a env st).bind fun vs s => match vs with
  | [.d (.int n)] => if -(2 ^ 62) ≤ n ∧ n ≤ 1000000 then .ok ((List.range n.toNat).map fun k => PyData.int (0 + (k : Nat))) s else .bad
  | _ => .bad
theorem si_range {er : EA} (hg : Gl X "range") (hm : X.mg "range" = none) (ha : SA cl X W [a] er) (hs : starEach [a] X.env = [(false, eval a X.env)] := by rfl) : SI cl X W t (.Call (.Name "range" p) [a] [] pos) (iRange er) :=
  (pi_range1 hg hm ha hs).impM fun σ H Q h => by
    obtain ⟨G, m, env, st, rl, en, p⟩ := h
    refine ⟨G, m, env, st, rl, en, Post.bindE p fun v s1 x H1 G1 m1 e0 e1 rl1 r1 p1 => ?_⟩
    split at p1
    · rename_i n
      split at p1
      · rename_i hn
        obtain ⟨v1, rfl, q1⟩ := repVs1 r1
        cases q1 with
        | d q1 => cases q1; exact ⟨_, rfl, hn.1, by omega, p1 _ H1 G1 m1 (Ext.refl _ _ _) rl1 (iters_range 0 _)⟩
      · exact p1.elim
    · exact p1.elim
def zipOf (vs : List Val) : Option (List D) := match vs with
  | [.d (.list xs), .d (.list ys)] => some (zipD xs ys)
  | [.d (.tuple xs), .d (.tuple ys)] => some (zipD xs ys)
  | _ => none
def iZip (a : EA) : EI := fun env st => (a env st).bind fun vs s => match zipOf vs with
  | some xs => .ok xs s
  | none => .bad
theorem si_zip {er : EA} {elts : List Expr} {kk : Nat} (hg : Gl X "zip") (hm : X.mg "zip" = none) (ha : SA cl X W [a, b] er) (hs : starEach [a, b] X.env = (false, eval a X.env) :: starEach [b] X.env := by rfl) (hpl : (backTo pos (starEach [b] X.env)).any (·.1) = false := by rfl) :
    SI cl X W (.Tuple elts kk tpos) (.Call (.Name "zip" p) [a, b] [] pos) (iZip er) := (RZ.pi_zipA hg hm ha hs hpl).impM fun σ H Q h => by
  obtain ⟨G, m, env, st, rl, en, p⟩ := h
  refine ⟨G, m, env, st, rl, en, Post.bindE p fun v s1 x H1 G1 m1 e0 e1 rl1 r1 p1 => ?_⟩
  unfold zipOf at p1
  split at p1
  · rename_i xs e
    split at e
    · obtain ⟨v1, v2, rfl, q1, q2⟩ := repVs2 r1
      cases e
      cases q1 with
      | d q1 =>
        cases q2 with
        | d q2 =>
          cases q1 with
          | lst g1 a1 =>
            cases q2 with
            | lst g2 a2 => exact ⟨_, _, _, _, rfl, .inl ⟨SqL.of (rl1.sub _ _ g1), SqL.of (rl1.sub _ _ g2), p1 _ H1 G1 m1 (Ext.refl _ _ _) rl1 (iters_zipL g1 g2 a1 a2)⟩⟩
    · obtain ⟨v1, v2, rfl, q1, q2⟩ := repVs2 r1
      cases e
      cases q1 with
      | d q1 =>
        cases q2 with
        | d q2 =>
          cases q1 with
          | tup g1 a1 =>
            cases q2 with
            | tup g2 a2 => exact ⟨_, _, _, _, rfl, .inr ⟨SqT.sub rl1.sub g1, SqT.sub rl1.sub g2, p1 _ H1 G1 m1 (Ext.refl _ _ _) rl1 (iters_zipT g1 g2 a1 a2)⟩⟩
    · cases e
  · exact p1.elim
/-! ### for, while -/
def forL (tg : Tg) (body : ES) : List D → Ev → Sto → R Fl
  | [], env, st => .ok (.nx env) st
  | x :: xs, env, st => match tg.put x env with
    | none => .bad
    | some e1 => match body e1 st with
      | .ok (.nx e) s => forL tg body xs e s
      | .ok (.ct e) s => forL tg body xs e s
      | .ok (.bk e) s => .ok (.nx e) s
      | r => r
def sFor (tg : Tg) (ei : EI) (body : ES) : ES := fun env st => (ei env st).bindS env fun xs s => forL tg body xs env s
theorem ss_for {tg : Tg} {ei : EI} {body : List Stmt} {eb : ES} (hp : PassesOwn (model X.prog X.w) X.A X.env X.xe) (hc : X.calm = true) (hi : SI cl X W t a ei) (hg : SG X t tg) (hb : SSs cl X W body eb) (hs : ∀ x, foldedSetIterable a X.env x = pure x := by intro _; rfl) :
    SS cl X W (.For t a body [] pos) (sFor tg ei eb) := (ps_for hp hc hi hg hb hs).impM fun D σ H h => by
  obtain ⟨G, m, env, st, rl, en, p⟩ := h
  refine ⟨G, m, env, st, rl, en, Post.bindS en p fun xs s1 J H1 G1 m1 e0 e1 rl1 it p1 => ?_⟩
  refine ⟨fun i mm σ2 H2 => mm = xs.length - i ∧ i ≤ xs.length ∧ ∃ G2 m2 env2 st2, Sub G1 G2 ∧ Rl (rc X cl) G2 m2 H2 st2 ∧ EnvR (rc X cl) G2 m2 σ2 env2 ∧ PostS (rc X cl) G2 m2 H2 D W (forL tg eb (xs.drop i) env2 st2), ⟨xs.length, by simp, Nat.zero_le _, G1, m1, env, s1, Sub.refl _, rl1, en.ext e1, by simpa using p1⟩, ?_⟩
  rintro i mm σ2 H2 ⟨rfl, hi, G2, m2, env2, st2, sb, rl2, en2, q⟩
  by_cases hlt : i < xs.length
  · refine .inr ⟨Iters.go it sb rl2 hlt, fun σ3 H3 => ∃ G3 m3 env3 st3, Sub G1 G3 ∧ Rl (rc X cl) G3 m3 H3 st3 ∧ EnvR (rc X cl) G3 m3 σ3 env3 ∧ PostS (rc X cl) G3 m3 H3 D W (forL tg eb (xs.drop (i + 1)) env3 st3), fun σ3 H3 ⟨G3, m3, env3, st3, a1, a2, a3, a4⟩ => ⟨xs.length - (i + 1), by omega, rfl, hlt, G3, m3, env3, st3, a1, a2, a3, a4⟩, fun x H3 y => ?_⟩
    have ei : xs[i]? = some xs[i] := List.getElem?_eq_getElem hlt
    obtain ⟨G3, ex3, rl3, rx⟩ := Iters.yld it sb rl2 y ei
    rw [List.drop_eq_getElem_cons hlt] at q
    simp only [forL] at q
    split at q
    · exact q.elim
    · rename_i env3 e3
      refine Tg.g_of rl3 (en2.ext ex3) rx e3 fun σ4 _ en4 => ⟨G3, m2, env3, st2, rl3, en4, ?_⟩
      have q2 := PostS.ext ex3 q
      cases eb1 : eb env3 st2 with
      | bad => rw [eb1] at q2; exact q2
      | exc e s => rw [eb1] at q2; exact q2
      | ok f s =>
        rw [eb1] at q2
        cases f with
        | nx e => exact fun σ5 H5 G5 m5 ex5 rl5 en5 => ⟨G5, m5, e, s, (sb.trans ex3.sub).trans ex5.sub, rl5, en5, PostS.ext ex5 q2⟩
        | ct e => exact fun σ5 H5 G5 m5 ex5 rl5 en5 => ⟨G5, m5, e, s, (sb.trans ex3.sub).trans ex5.sub, rl5, en5, PostS.ext ex5 q2⟩
        | bk e => exact q2
        | rt v => exact q2
        | ex v w => exact q2
  · have e : i = xs.length := by omega
    subst e
    refine .inl ⟨Iters.stop it sb rl2 (Nat.le_refl _), ?_⟩
    rw [List.drop_length] at q
    exact q σ2 H2 G2 m2 (Ext.refl _ _ _) rl2 en2
end
end Mi
end

section
set_option maxRecDepth 100000
set_option autoImplicit false
namespace Mi
open PySem PySem.Spec L2

theorem RepV.grow {C : RC} {G : Hp} {m m' : List Addr} (pre : ∀ (i : Nat) (a : Addr), m[i]? = some a → m'[i]? = some a) {v : V} {x : Val} (h : RepV C G m v x) : RepV C G m' v x := by
  induction h with
  | d h => exact .d h
  | r h => exact .r (pre _ _ h)
  | s h => exact .s h
  | a h => exact .a h
  | c h _ ih => exact .c h ih
  | f => exact .f
theorem RepV.subG {C : RC} {G G' : Hp} {m : List Addr} (sb : Sub G G') {v : V} {x : Val} (h : RepV C G m v x) : RepV C G' m v x := by
  induction h with
  | d h => exact .d (h.sub sb)
  | r h => exact .r h
  | s h => exact .s (SqL.sub sb h)
  | a h => exact .a fun q hq => let ⟨fs, z⟩ := h q hq; ⟨fs, sb _ _ z⟩
  | c h _ ih => exact .c (h.sub sb) ih
  | f => exact .f
theorem RepVs.grow {C : RC} {G : Hp} {m m' : List Addr} (pre : ∀ (i : Nat) (a : Addr), m[i]? = some a → m'[i]? = some a) : ∀ {vs : List V} {xs : List Val}, RepVs C G m vs xs → RepVs C G m' vs xs
  | _, _, .nil => .nil
  | _, _, .cons h r => by
    refine .cons ?_ (RepVs.grow pre r)
    cases h with
    | d h => exact .d h
    | r h => exact .r (pre _ _ h)
    | s h => exact .s h
    | a h => exact .a h
    | c h k => exact .c h (RepV.grow pre k)
    | f => exact .f
theorem RepVs.subG {C : RC} {G G' : Hp} {m : List Addr} (sb : Sub G G') : ∀ {vs : List V} {xs : List Val}, RepVs C G m vs xs → RepVs C G' m vs xs
  | _, _, .nil => .nil
  | _, _, .cons h r => by
    refine .cons ?_ (RepVs.subG sb r)
    cases h with
    | d h => exact .d (h.sub sb)
    | r h => exact .r h
    | s h => exact .s (SqL.sub sb h)
    | a h => exact .a fun q hq => let ⟨fs, z⟩ := h q hq; ⟨fs, sb _ _ z⟩
    | c h k => exact .c (h.sub sb) (RepV.subG sb k)
    | f => exact .f
/-! ### an object at the side: neither frozen nor of the store -/
def NT (H : Hp) (p : Addr) : Prop := ∀ ps, H p ≠ some (.tbl ps)
theorem nt_none {H : Hp} {p : Addr} (h : H p = none) : NT H p := fun ps z => by rw [h] at z; cases z
theorem nt_of {H : Hp} {p : Addr} {u : HO} (h : H p = some u) (e : isTbl u = false := by rfl) : NT H p := fun ps z => by rw [h] at z; cases z; cases e
theorem TabsOk.subG {C : RC} {G G' : Hp} {m : List Addr} {H : Hp} (t : TabsOk C G m H) (sb : Sub G G') (k : ∀ P ps, H P = some (.tbl ps) → G' P = G P) : TabsOk C G' m H := fun j hj => let ⟨ps, h1, h2, h3, h4, h5⟩ := t j hj; ⟨ps, h1, h2, (k _ _ h1).trans h3, h4, fun pos cv hc => let ⟨c, e1, e2⟩ := h5 pos cv hc; ⟨c, e1, sb _ _ e2⟩⟩
theorem TabsOk.keep {C : RC} {G : Hp} {m : List Addr} {H H' : Hp} (t : TabsOk C G m H) (k : ∀ P ps, H P = some (.tbl ps) → H' P = some (.tbl ps)) : TabsOk C G m H' := fun j hj => let ⟨ps, h1, r⟩ := t j hj; ⟨ps, k _ _ h1, r⟩
section
variable {C : RC} {G : Hp} {m : List Addr} {H : Hp} {st : Sto} {p : Addr}
theorem Rl.side (r : Rl C G m H st) (hm : p ∉ m) (hg : G p = none) (o : HO) (nt : NT H p) : Rl C G m (upd H p o) st := by
  have ne : ∀ a ∈ m, a ≠ p := fun a ha e => hm (e ▸ ha)
  refine ⟨fun a u e => ?_, r.len, r.nd, fun a ha => by rw [upd_ne (ne a ha)]; exact r.liv a ha, r.out, fun i u a e1 e2 => ?_, r.tab.keep fun P ps z => by rw [upd_ne (fun q => by rw [q] at z; exact nt ps z)]; exact z, r.clo⟩
  · rw [upd_ne (fun z => by subst z; rw [hg] at e; cases e)]; exact r.sub _ _ e
  · exact (r.obj i u a e1 e2).mono (Ext.refl G m H) fun z q => by rw [upd_ne (ne a (List.mem_of_getElem? e2))]; exact q
/-- from a state in which p was free -/
theorem Ext.side {G' : Hp} {m' : List Addr} {H' : Hp} (e : Ext G m H G' m' H') (hp : H p = none) (o : HO) : Ext G m H G' m' (upd H' p o) :=
  ⟨e.sub, e.pre, fun a u q hm nt => by rw [upd_ne (ne_of_none q hp)]; exact e.frm a u q hm nt, e.new, e.gn, fun a h => upd_al a (e.al a h)⟩
theorem Rl.laySide {G0 : Hp} {m0 : List Addr} {H0 : Hp} (r : Rl C G m H st) (e : Ext G0 m0 H0 G m H) (h0 : H0 p = none) (hm : p ∉ m) (hg : G p = none) {o : HO} (hp : H p = some o) (nt : isTbl o = false := by rfl) : Rl C (upd G p o) m H st ∧ Ext G0 m0 H0 (upd G p o) m H ∧ Sub G (upd G p o) := by
  have ne : ∀ a ∈ m, a ≠ p := fun a ha e => hm (e ▸ ha)
  have sb : Sub G (upd G p o) := Sub.upd hg
  refine ⟨⟨fun a u e => ?_, r.len, r.nd, r.liv, fun i a u e1 e2 e3 => ?_, fun i u a e1 e2 => ?_, r.tab.subG sb fun P ps z => upd_ne fun q => by rw [q] at z; exact nt_of hp nt ps z, fun a ha o' z => by rw [upd_ne (ne a ha)]; exact r.clo a ha o' z⟩, ⟨e.sub.trans sb, e.pre, fun a o h k nt => e.frm a o h k nt, e.new, fun a z => ?_, e.al⟩, sb⟩
  · by_cases z : a = p
    · subst z; rw [upd_same] at e; cases e; exact hp
    · rw [upd_ne z] at e; exact r.sub _ _ e
  · rw [upd_ne (ne a (List.mem_of_getElem? e1))]; exact r.out i a u e1 e2 e3
  · have q := r.obj i u a e1 e2
    cases u with
    | lst xs => obtain ⟨vs, h1, h2⟩ := q; exact ⟨vs, h1, h2.sub sb⟩
    | dK _ => obtain ⟨vs, h1, h2⟩ := q; exact ⟨vs, h1, h2.sub sb⟩
    | dN _ => obtain ⟨vs, h1, h0, h2⟩ := q; exact ⟨vs, h1, h0, h2.sub sb⟩
    | dL _ => obtain ⟨od, vs, h1, h0, h2⟩ := q; exact ⟨od, vs, sb _ _ h1, h0, h2.sub sb⟩
    | gone => trivial
    | ins c fs => obtain ⟨dx, vs', h1, h2, h3⟩ := q; exact ⟨dx, vs', h1, h2, h3.subG sb⟩
  · by_cases q : a = p
    · subst q; exact .inr (.inr h0)
    · rw [upd_ne q] at z; exact e.gn a z
end

theorem stayG {G G' : Hp} {m m' : List Addr} {H H' : Hp} {p : Addr} (e : Ext G m H G' m' H') (hg : G p = none) (hm : p ∉ m) (hH : H p ≠ none) : G' p = none := by
  cases w : G' p with
  | none => rfl
  | some o =>
    rcases e.gn p (by rw [w]; simp) with z | z | z
    · exact absurd hg z
    · exact absurd z hm
    · exact absurd z hH
/-! ### slots of a comprehension's own -/
def wipeE (env : Ev) : List Nat → Ev
  | [] => env
  | v :: vs => (wipeE env vs).set v none
theorem EnvR.setNone {C : RC} {G : Hp} {m : List Addr} {σ : L2.St} {env : Ev} (h : EnvR C G m σ env) (i : Nat) : EnvR C G m (σ.set i none) (env.set i none) := by
  refine ⟨by simpa using h.1, fun j u q => ?_⟩
  by_cases e : i = j
  · subst e
    by_cases hl : i < env.length
    · rw [List.getElem?_set_self hl] at q; cases q
    · rw [List.getElem?_eq_none (by simpa using hl)] at q; cases q
  · rw [List.getElem?_set_ne e] at q ⊢
    exact h.2 j u q
theorem EnvR.wipe {C : RC} {G : Hp} {m : List Addr} {σ : L2.St} {env : Ev} (h : EnvR C G m σ env) : ∀ vs : List Nat, EnvR C G m (L2.wipe σ vs) (wipeE env vs)
  | [] => h
  | v :: vs => (EnvR.wipe h vs).setNone v
theorem wipe_get (σ : L2.St) : ∀ (vs : List Nat) (i : Nat), (L2.wipe σ vs)[i]? = if i ∈ vs then (if i < σ.length then some none else none) else σ[i]?
  | [], i => by simp [L2.wipe]
  | v :: vs, i => by
    show ((L2.wipe σ vs).set v none)[i]? = _
    by_cases e : v = i
    · subst e
      rw [if_pos List.mem_cons_self]
      by_cases hl : v < σ.length
      · rw [if_pos hl, List.getElem?_set_self (by rw [wipe_length]; exact hl)]
      · rw [if_neg hl, List.getElem?_eq_none (by rw [List.length_set, wipe_length]; omega)]
    · rw [List.getElem?_set_ne e, wipe_get σ vs i]
      have : (i ∈ v :: vs) ↔ (i ∈ vs) := by simp [Ne.symm e]
      simp only [this]
theorem wipe_out {σ σ2 : L2.St} {vs sl : List Nat} (o : Outside sl (L2.wipe σ vs) σ2) (h : ∀ i ∈ sl, i ∈ vs) : L2.wipe σ2 vs = L2.wipe σ vs := by
  apply List.ext_getElem?
  intro i
  rw [wipe_get σ2, wipe_get σ]
  have hl : σ2.length = σ.length := by rw [o.1, wipe_length]
  by_cases hi : i ∈ vs
  · rw [if_pos hi, if_pos hi, hl]
  · rw [if_neg hi, if_neg hi, o.2 i (fun z => hi (h i z)), wipe_get, if_neg hi]
/-! ### list comprehensions -/
def noX {α : Type} : R α → R α
  | .exc _ _ => .bad
  | r => r
abbrev WF : WX := fun _ _ _ _ => False
theorem Post.noX {α β : Type} {C : RC} {rel : Hp → List Addr → β → α → Prop} {G : Hp} {m : List Addr} {H : Hp} {Q : β → Hp → Prop} {W : XW} {x : R α} (h : Post C rel G m H Q W (Mi.noX x)) : Post C rel G m H Q (fun _ _ _ => False) x := by
  cases x with
  | ok v s => exact h
  | exc e s => exact h.elim
  | bad => exact h
def kYes : ET := fun _ st => .ok true st
def compL (tg : Tg) (tt : ET) (ee : EE) (env : Ev) : List D → Sto → R (List D)
  | [], st => .ok [] st
  | x :: xs, st => match tg.put x env with
    | none => .bad
    | some e1 => (noX (tt e1 st)).bind fun b s1 => match b with
      | false => compL tg tt ee env xs s1
      | true => (noX (ee e1 s1)).bind fun v s2 => match toD v s2 with
        | some (d, s3) => (compL tg tt ee env xs s3).bind fun ds s4 => .ok (d :: ds) s4
        | none => .bad
abbrev STs (cl : Nat → Addr) (X : Cx) (W : WX) (ifs : List Expr) (ev : ET) : Prop := PTs X ifs (tT (rc X cl) W ev)
section
variable {cl : Nat → Addr} {X : Cx} {W : WX} {pos : Pos} {t a c elt : Expr} {ifs : List Expr} {ei : EI} {tg : Tg} {tt : ET} {ee : EE}
theorem sts_nil : STs cl X W [] kYes := by
  refine ⟨fun pins s σ H Q I h => pts_nil.run pins s σ H Q I ?_⟩
  obtain ⟨G, m, env, st, rl, en, p⟩ := h
  exact p true H G m (Ext.refl _ _ _) rl rfl
theorem sts_one (h : ST cl X W c tt) : STs cl X W [c] tt := pts_one h
theorem R.bind_assoc {α β γ : Type} (x : R α) (f : α → Sto → R β) (g : β → Sto → R γ) : (x.bind f).bind g = x.bind fun a s => (f a s).bind g := by cases x <;> rfl
/-- the loop of one clause, the new list at D -/
theorem lc_ok {vs : List Nat} {σ : L2.St} {env : Ev} {G0 : Hp} {m0 : List Addr} {H0 : Hp} {s0 : Sto} {J : It} {xs : List D} {Q : VK} {fz : List D → Sto → R Val} {D' : Addr} (hsl : ∀ i ∈ tg.slots, i ∈ vs) (it : Iters (rc X cl) G0 J xs) (rl0 : Rl (rc X cl) G0 m0 H0 s0) (en : EnvR (rc X cl) G0 m0 σ env) (hD : H0 D' = none) (hsm : small xs.length = true)
    (p : Post (rc X cl) (RepV (rc X cl)) G0 m0 H0 Q (fun _ _ _ => False) ((compL tg tt ee (wipeE env vs) xs s0).bind fz))
    (hf : ∀ ds st vs' G m H, fz ds st ≠ .bad → Ext G0 m0 H0 G m H → Rl (rc X cl) G m H st → D' ∉ m → G D' = none → H D' = some (.lst vs') → RepAll (rc X cl) G vs' ds → Post (rc X cl) (RepV (rc X cl)) G0 m0 H0 Q (fun _ _ _ => False) (fz ds st) → Q (.ref D') H) :
    ∃ Wv : Nat → Nat → Hp → Prop, (∃ k, Wv 0 k (upd H0 D' (.lst []))) ∧ ∀ i k H, Wv i k H → (J.stop i H ∧ Q (.ref D') H) ∨ (J.go i H ∧ ∃ Nx : Hp → Prop, (∀ H', Nx H' → ∃ k', k' < k ∧ Wv (i + 1) k' H') ∧ ∀ x H', J.yld i H x H' → tg.g X.K x (L2.wipe σ vs) H' fun σ2 H2 => L2.wipe σ2 vs = L2.wipe σ vs ∧
      tT (rc X cl) WF tt σ2 H2 fun b H3 => if b = true then tE (rc X cl) WF ee σ2 H3 fun y H4 => ∃ acc, H4 D' = some (.lst acc) ∧ acc.length < sizeLine ∧ Nx (upd H4 D' (.lst (acc ++ [y]))) else Nx H3) := by
  have line : xs.length < sizeLine := by
    have h := of_decide_eq_true hsm
    rw [sizeLine_eq]; omega
  let St : Nat → Hp → Prop := fun i H => ∃ G m st vs' acc, Ext G0 m0 H0 G m H ∧ Rl (rc X cl) G m H st ∧ D' ∉ m ∧ G D' = none ∧ H D' = some (.lst vs') ∧ RepAll (rc X cl) G vs' acc ∧ acc.length ≤ i ∧
    Post (rc X cl) (RepV (rc X cl)) G0 m0 H0 Q (fun _ _ _ => False) ((compL tg tt ee (wipeE env vs) (xs.drop i) st).bind fun ds s => fz (acc ++ ds) s)
  refine ⟨fun i k H => k = xs.length - i ∧ i ≤ xs.length ∧ St i H, ⟨xs.length, by simp, Nat.zero_le _, G0, m0, s0, [], [], (Ext.refl _ _ _).side hD _, rl0.side (rl0.notin hD) (rl0.freeG hD) _ (nt_none hD), rl0.notin hD, rl0.freeG hD, upd_same, .nil, Nat.le_refl _, by simpa using p⟩, ?_⟩
  rintro i k H ⟨rfl, hi, G, m, st, vs', acc, ex, rl, hm, hg, hH, ra, hacc, q⟩
  by_cases hlt : i < xs.length
  · refine .inr ⟨Iters.go it ex.sub rl hlt, St (i + 1), fun H' z => ⟨xs.length - (i + 1), by omega, rfl, hlt, z⟩, fun x H1 y => ?_⟩
    obtain ⟨G1, ex1, rl1, rx⟩ := Iters.yld it ex.sub rl y (List.getElem?_eq_getElem hlt)
    have h1D : H1 D' = some (.lst vs') := ex1.frm _ _ hH hm
    rw [List.drop_eq_getElem_cons hlt] at q
    simp only [compL] at q
    split at q
    · exact q.elim
    · rename_i e1 ee1
      have en1 : EnvR (rc X cl) G1 m (L2.wipe σ vs) (wipeE env vs) := ((en.ext ex).ext ex1).wipe vs
      refine Tg.g_of rl1 en1 rx ee1 fun σ2 o2 en2 => ⟨wipe_out o2 hsl, G1, m, e1, st, rl1, en2, ?_⟩
      rw [R.bind_assoc] at q
      have q1 : Post (rc X cl) (RepV (rc X cl)) G0 m0 H0 Q (fun _ _ _ => False) _ := q
      cases et : tt e1 st with
      | bad => rw [et] at q; exact q.elim
      | exc e s => rw [et] at q; exact q.elim
      | ok b s1 =>
        rw [et] at q
        intro b' H2 G2 m2 ex2 rl2 rb
        cases (show b' = b from rb)
        have h2D : H2 D' = some (.lst vs') := ex2.frm _ _ h1D hm
        have hm2 : D' ∉ m2 := fun z => (ex2.new _ z).elim hm (fun w => by rw [h1D] at w; cases w)
        have hg2 : G2 D' = none := stayG (ex1.trans ex2) hg hm (by rw [hH]; simp)
        cases b with
        | false =>
          rw [if_neg (by decide)]
          exact ⟨G2, m2, s1, vs', acc, (ex.trans ex1).trans ex2, rl2, hm2, hg2, h2D, (ra.sub ex1.sub).sub ex2.sub, by omega, q⟩
        | true =>
          rw [if_pos rfl]
          refine ⟨G2, m2, e1, s1, rl2, en2.ext ex2, ?_⟩
          simp only [R.bind_ok, noX] at q
          cases ev : ee e1 s1 with
          | bad => rw [ev] at q; exact q.elim
          | exc e s => rw [ev] at q; exact q.elim
          | ok v s2 =>
            rw [ev] at q
            intro yv H3 G3 m3 ex3 rl3 ry
            simp only [R.bind_ok, noX] at q
            split at q
            · rename_i d s3 ed
              obtain ⟨G4, rl4, ex4, rd⟩ := toD_rep rl3 ry ed
              have h3D : H3 D' = some (.lst vs') := ex3.frm _ _ h2D hm2
              have hm3 : D' ∉ m3 := fun z => (ex3.new _ z).elim hm2 (fun w => by rw [h2D] at w; cases w)
              have hg4 : G4 D' = none := stayG (ex3.trans ex4) hg2 hm2 (by rw [h2D]; simp)
              refine ⟨vs', h3D, by rw [ra.length]; omega, G4, m3, s3, vs' ++ [yv], acc ++ [d], ((((ex.trans ex1).trans ex2).trans ex3).trans ex4).side hD _, rl4.side hm3 hg4 _ (nt_of h3D), hm3, hg4, upd_same, ((((ra.sub ex1.sub).sub ex2.sub).sub ex3.sub).sub ex4.sub).append (.cons rd .nil), by simp; omega, ?_⟩
              rw [R.bind_assoc] at q
              simpa [R.bind_ok] using q
            · exact q.elim
  · have e : i = xs.length := by omega
    subst e
    refine .inl ⟨Iters.stop it ex.sub rl (Nat.le_refl _), ?_⟩
    rw [List.drop_length] at q
    simp only [compL, R.bind_ok, List.append_nil] at q
    exact hf acc st vs' G m H (fun z => by rw [z] at q; exact q) ex rl hm hg hH ra q
def eLc (vs : List Nat) (tg : Tg) (ei : EI) (tt : ET) (ee : EE) : EE := fun env st => (ei env st).bind fun xs s => if small xs.length = true then (compL tg tt ee (wipeE env vs) xs s).bind fun ds s2 => .ok (.d (.list ds)) s2 else .bad
/-- a list that may be changed -/
def eLcR (vs : List Nat) (tg : Tg) (ei : EI) (tt : ET) (ee : EE) : EE := fun env st => (ei env st).bind fun xs s => if small xs.length = true then (compL tg tt ee (wipeE env vs) xs s).bind fun ds s2 => .ok (.r s2.length) (s2 ++ [.lst ds]) else .bad
theorem compL_noX (env : Ev) : ∀ (xs : List D) (st : Sto) (e : Exn) (s : Sto), compL tg tt ee env xs st ≠ .exc e s
  | [], st, e, s => by simp [compL]
  | x :: xs, st, e, s => by
    simp only [compL]
    split
    · simp
    · rename_i e1 _
      cases tt e1 st with
      | bad => simp [noX]
      | exc _ _ => simp [noX]
      | ok b s1 =>
        simp only [noX, R.bind_ok]
        cases b with
        | false => exact compL_noX env xs s1 e s
        | true =>
          cases ee e1 s1 with
          | bad => simp [noX]
          | exc _ _ => simp [noX]
          | ok v s2 =>
            simp only [noX, R.bind_ok]
            split
            · rename_i d s3 _
              cases q : compL tg tt ee env xs s3 with
              | ok _ _ => simp
              | bad => simp
              | exc e' s' => exact absurd q (compL_noX env xs s3 e' s')
            · simp
theorem lc_post {vs : List Nat} {σ : L2.St} {H : Hp} {Q : VK} {fz : List D → Sto → R Val} (hfz : ∀ ds s, ∃ v s', fz ds s = .ok v s') (hsl : ∀ i ∈ tg.slots, i ∈ vs)
    (h : tE (rc X cl) W (fun env st => (ei env st).bind fun xs s => if small xs.length = true then (compL tg tt ee (wipeE env vs) xs s).bind fz else .bad) σ H Q)
    (hf : ∀ ds st vs' G0 m0 H0 G m H D', H0 D' = none → Ext G0 m0 H0 G m H → Rl (rc X cl) G m H st → D' ∉ m → G D' = none → H D' = some (.lst vs') → RepAll (rc X cl) G vs' ds → Post (rc X cl) (RepV (rc X cl)) G0 m0 H0 Q (fun _ _ _ => False) (fz ds st) → Q (.ref D') H) :
    tLc (tI (rc X cl) W ei) (tg.g X.K) (tT (rc X cl) WF tt) (tE (rc X cl) WF ee) vs σ H Q := by
  obtain ⟨G, m, env, st, rl, en, p⟩ := h
  refine ⟨G, m, env, st, rl, en, Post.bindE p fun xs s1 J H1 G1 m1 e0 e1 rl1 it p1 => fun D' hD => ?_⟩
  split at p1
  · rename_i hs
    refine lc_ok (fz := fz) hsl it rl1 (en.ext e1) hD hs ?_ fun ds st2 vs' G2 m2 H2 _ ex r2 a1 a2 a3 a4 a5 => hf ds st2 vs' G1 m1 H1 G2 m2 H2 D' hD ex r2 a1 a2 a3 a4 a5
    cases q : compL tg tt ee (wipeE env vs) xs s1 with
    | bad => rw [q] at p1; exact p1
    | exc e s => exact absurd q (compL_noX _ _ _ _ _)
    | ok ds s2 =>
      rw [q] at p1
      obtain ⟨v, s', e⟩ := hfz ds s2
      simp only [R.bind_ok, e] at p1 ⊢
      exact p1
  · exact p1.elim
variable {scope : Scope} {own : List (Str × Nat)}
theorem se_lc (hc : X.calm = true) (hN : X.N.Nodup) (hi : SI cl X W t a ei) (ok : BlkOk X.N X.env.scope scope own) (hg : ∀ (s : Shared) (H : Hp) (C : Addr) (cc : List (Str × Addr)) (fp : List Addr), SG (X.blk s H scope (compEnvC scope cc C X.env) fp) t tg)
    (ht : ∀ (s : Shared) (H : Hp) (C : Addr) (cc : List (Str × Addr)) (fp : List Addr), STs cl (X.blk s H scope (compEnvC scope cc C X.env) fp) WF ifs tt)
    (he : ∀ (s : Shared) (H : Hp) (C : Addr) (cc : List (Str × Addr)) (fp : List Addr), SE cl (X.blk s H scope (compEnvC scope cc C X.env) fp) WF elt ee) (hsl : ∀ i ∈ tg.slots, i ∈ own.map (·.2)) (hs : ∀ x, foldedSetIterable a X.env x = pure x := by intro _; rfl) :
    SE cl X W (.ListComp elt [⟨t, a, ifs, 0⟩] scope pos) (eLc (own.map (·.2)) tg ei tt ee) := (pe_lc hc hN hi ok hg ht he hs).impM fun σ H Q h =>
  lc_post (fun ds s => ⟨_, _, rfl⟩) hsl h fun ds st vs' G0 m0 H0 G m H D' h0 ex rl hm hg hH ra p => by
    obtain ⟨r2, ex2, sb⟩ := rl.laySide ex h0 hm hg hH
    exact p _ H _ m ex2 r2 (.d (.lst upd_same (ra.sub sb)))
/-- name = [..] -/
theorem ss_setLc {y : Str} {py spos : Pos} (i : Nat) (hc : X.calm = true) (hN : X.N.Nodup) (hy : X.N[i]? = some y) (hyl : X.env.scope.names.lookup y = some .local) (hsw : swapsWith (.ListComp elt [⟨t, a, ifs, 0⟩] scope pos) (some (.Name y py)) spos.line X.env = pure true)
    (hi : SI cl X W t a ei) (ok : BlkOk X.N X.env.scope scope own) (hg : ∀ (s : Shared) (H : Hp) (C : Addr) (cc : List (Str × Addr)) (fp : List Addr), SG (X.blk s H scope (compEnvC scope cc C X.env) fp) t tg)
    (ht : ∀ (s : Shared) (H : Hp) (C : Addr) (cc : List (Str × Addr)) (fp : List Addr), STs cl (X.blk s H scope (compEnvC scope cc C X.env) fp) WF ifs tt)
    (he : ∀ (s : Shared) (H : Hp) (C : Addr) (cc : List (Str × Addr)) (fp : List Addr), SE cl (X.blk s H scope (compEnvC scope cc C X.env) fp) WF elt ee) (hsl : ∀ i ∈ tg.slots, i ∈ own.map (·.2)) (hs : ∀ x, foldedSetIterable a X.env x = pure x := by intro _; rfl) :
    SS cl X W (.Assign [.Name y py] (.ListComp elt [⟨t, a, ifs, 0⟩] scope pos) spos) (sSet i (eLc (own.map (·.2)) tg ei tt ee)) := (ps_setLc hc hN hy hyl hsw hi ok hg ht he hs).impM fun D σ H h => by
  obtain ⟨G, m, env, st, rl, en, p⟩ := h
  refine lc_post (Q := fun x H1 => gName i x σ H1 D.nx) (fun ds s => ⟨_, _, rfl⟩) hsl ⟨G, m, env, st, rl, en, Post.bindS en p fun v s1 x H1 G1 m1 _ e1 rl1 r1 p1 => p1 _ H1 G1 m1 (Ext.refl _ _ _) rl1 ((en.ext e1).set r1 i)⟩ fun ds st vs' G0 m0 H0 G m H D' h0 ex rl hm hg hH ra p => ?_
  obtain ⟨r2, ex2, sb⟩ := rl.laySide ex h0 hm hg hH
  exact p _ H _ m ex2 r2 (.d (.lst upd_same (ra.sub sb)))
end
end Mi
end

section
set_option maxRecDepth 100000
set_option autoImplicit false
namespace Mi
open PySem PySem.Spec L2

/-! ### two clauses -/
def compL2 (tg : Tg) (tt : ET) (ei1 : EI) (vs1 : List Nat) (tg1 : Tg) (tt1 : ET) (ee : EE) (env : Ev) : List D → Sto → R (List D)
  | [], st => .ok [] st
  | x :: xs, st => match tg.put x env with
    | none => .bad
    | some e1 => (noX (tt e1 st)).bind fun b s1 => match b with
      | false => compL2 tg tt ei1 vs1 tg1 tt1 ee env xs s1
      | true => (noX (ei1 e1 s1)).bind fun ys s2 => (compL tg1 tt1 ee (wipeE e1 vs1) ys s2).bind fun ds s3 => (compL2 tg tt ei1 vs1 tg1 tt1 ee env xs s3).bind fun es s4 => .ok (ds ++ es) s4
section
variable {cl : Nat → Addr} {X : Cx} {W : WX} {pos : Pos} {t a t1 a1 c elt : Expr} {ifs ifs1 : List Expr} {ei ei1 : EI} {tg tg1 : Tg} {tt tt1 : ET} {ee : EE}
theorem lc_in {vs1 : List Nat} {σ2 : L2.St} {e1 : Ev} {G0 Gi : Hp} {m0 mi : List Addr} {H0 Hi : Hp} {J : It} {ys : List D} {Q : VK} {K : List D → Sto → R Val} {D' : Addr} {Nx : Hp → Prop} (hsl : ∀ i ∈ tg1.slots, i ∈ vs1) (it : Iters (rc X cl) Gi J ys) (hD : H0 D' = none) (en : EnvR (rc X cl) Gi mi σ2 e1)
    (hK : ∀ l s, Post (rc X cl) (RepV (rc X cl)) G0 m0 H0 Q (fun _ _ _ => False) (K l s) → l.length ≤ 1000000)
    (hNx : ∀ G m H st vs' acc, Ext Gi mi Hi G m H ∨ Sub Gi G → Ext G0 m0 H0 G m H → Rl (rc X cl) G m H st → D' ∉ m → G D' = none → H D' = some (.lst vs') → RepAll (rc X cl) G vs' acc → Post (rc X cl) (RepV (rc X cl)) G0 m0 H0 Q (fun _ _ _ => False) (K acc st) → Nx H)
    {st0 : Sto} {vs0 : List V} {acc0 : List D} (ex0 : Ext G0 m0 H0 Gi mi Hi) (rl0 : Rl (rc X cl) Gi mi Hi st0) (hm0 : D' ∉ mi) (hg0 : Gi D' = none) (hH0 : Hi D' = some (.lst vs0)) (ra0 : RepAll (rc X cl) Gi vs0 acc0)
    (p : Post (rc X cl) (RepV (rc X cl)) G0 m0 H0 Q (fun _ _ _ => False) ((compL tg1 tt1 ee (wipeE e1 vs1) ys st0).bind fun ds s => K (acc0 ++ ds) s)) :
    ∃ W1 : Nat → Nat → Hp → Prop, (∃ k, W1 0 k Hi) ∧ ∀ j k H, W1 j k H → (J.stop j H ∧ Nx H) ∨ (J.go j H ∧ ∃ Nx1 : Hp → Prop, (∀ H', Nx1 H' → ∃ k', k' < k ∧ W1 (j + 1) k' H') ∧ ∀ x H', J.yld j H x H' → tg1.g X.K x (L2.wipe σ2 vs1) H' fun σ3 H5 => L2.wipe σ3 vs1 = L2.wipe σ2 vs1 ∧
      tT (rc X cl) WF tt1 σ3 H5 fun b H6 => if b = true then tE (rc X cl) WF ee σ3 H6 fun y H7 => ∃ acc, H7 D' = some (.lst acc) ∧ acc.length < sizeLine ∧ Nx1 (upd H7 D' (.lst (acc ++ [y]))) else Nx1 H6) := by
  let St : Nat → Hp → Prop := fun i H => ∃ G m st vs' acc, Sub Gi G ∧ (∀ (i : Nat) (a : Addr), mi[i]? = some a → m[i]? = some a) ∧ Ext G0 m0 H0 G m H ∧ Rl (rc X cl) G m H st ∧ D' ∉ m ∧ G D' = none ∧ H D' = some (.lst vs') ∧ RepAll (rc X cl) G vs' acc ∧
    Post (rc X cl) (RepV (rc X cl)) G0 m0 H0 Q (fun _ _ _ => False) ((compL tg1 tt1 ee (wipeE e1 vs1) (ys.drop i) st).bind fun ds s => K (acc ++ ds) s)
  refine ⟨fun i k H => k = ys.length - i ∧ i ≤ ys.length ∧ St i H, ⟨ys.length, by simp, Nat.zero_le _, Gi, mi, st0, vs0, acc0, Sub.refl _, fun _ _ z => z, ex0, rl0, hm0, hg0, hH0, ra0, by simpa using p⟩, ?_⟩
  rintro i k H ⟨rfl, hi, G, m, st, vs', acc, sb, pre, ex, rl, hm, hg, hH, ra, q⟩
  by_cases hlt : i < ys.length
  · refine .inr ⟨Iters.go it sb rl hlt, St (i + 1), fun H' z => ⟨ys.length - (i + 1), by omega, rfl, hlt, z⟩, fun x H1 y => ?_⟩
    obtain ⟨G1, ex1, rl1, rx⟩ := Iters.yld it sb rl y (List.getElem?_eq_getElem hlt)
    have h1D : H1 D' = some (.lst vs') := ex1.frm _ _ hH hm
    rw [List.drop_eq_getElem_cons hlt] at q
    simp only [compL] at q
    split at q
    · exact q.elim
    · rename_i e2 ee1
      have enG : EnvR (rc X cl) G m σ2 e1 := ⟨en.1, fun i v z => by
        obtain ⟨x, h1, h2⟩ := en.2 i v z
        refine ⟨x, h1, ?_⟩
        exact (h2.subG sb).grow pre⟩
      have en1 : EnvR (rc X cl) G1 m (L2.wipe σ2 vs1) (wipeE e1 vs1) := (enG.ext ex1).wipe vs1
      refine Tg.g_of rl1 en1 rx ee1 fun σ3 o2 en2 => ⟨wipe_out o2 hsl, G1, m, e2, st, rl1, en2, ?_⟩
      rw [R.bind_assoc] at q
      cases et : tt1 e2 st with
      | bad => rw [et] at q; exact q.elim
      | exc e s => rw [et] at q; exact q.elim
      | ok b s1 =>
        rw [et] at q
        intro b' H2 G2 m2 ex2 rl2 rb
        cases (show b' = b from rb)
        have h2D : H2 D' = some (.lst vs') := ex2.frm _ _ h1D hm
        have hm2 : D' ∉ m2 := fun z => (ex2.new _ z).elim hm (fun w => by rw [h1D] at w; cases w)
        have hg2 : G2 D' = none := stayG (ex1.trans ex2) hg hm (by rw [hH]; simp)
        cases b with
        | false =>
          rw [if_neg (by decide)]
          exact ⟨G2, m2, s1, vs', acc, (sb.trans ex1.sub).trans ex2.sub, fun i a z => ex2.pre i a (pre i a z), (ex.trans ex1).trans ex2, rl2, hm2, hg2, h2D, (ra.sub ex1.sub).sub ex2.sub, q⟩
        | true =>
          rw [if_pos rfl]
          refine ⟨G2, m2, e2, s1, rl2, en2.ext ex2, ?_⟩
          simp only [R.bind_ok, noX] at q
          cases ev : ee e2 s1 with
          | bad => rw [ev] at q; exact q.elim
          | exc e s => rw [ev] at q; exact q.elim
          | ok v s2 =>
            rw [ev] at q
            intro yv H3 G3 m3 ex3 rl3 ry
            simp only [R.bind_ok, noX] at q
            split at q
            · rename_i d s3 ed
              obtain ⟨G4, rl4, ex4, rd⟩ := toD_rep rl3 ry ed
              have h3D : H3 D' = some (.lst vs') := ex3.frm _ _ h2D hm2
              have hm3 : D' ∉ m3 := fun z => (ex3.new _ z).elim hm2 (fun w => by rw [h2D] at w; cases w)
              have hg4 : G4 D' = none := stayG (ex3.trans ex4) hg2 hm2 (by rw [h2D]; simp)
              rw [R.bind_assoc] at q
              have line : vs'.length < sizeLine := by
                cases qc : compL tg1 tt1 ee (wipeE e1 vs1) (ys.drop (i + 1)) s3 with
                | bad => rw [qc] at q; exact q.elim
                | exc e s => exact absurd qc (compL_noX _ _ _ _ _)
                | ok ds s4 =>
                  rw [qc] at q
                  have z := hK _ _ q
                  rw [sizeLine_eq, ra.length]
                  simp at z; omega
              refine ⟨vs', h3D, line, G4, m3, s3, vs' ++ [yv], acc ++ [d], ((sb.trans ex1.sub).trans ex2.sub).trans (ex3.sub.trans ex4.sub), fun i a z => ex3.pre i a (ex2.pre i a (pre i a z)), ((((ex.trans ex1).trans ex2).trans ex3).trans ex4).side hD _, rl4.side hm3 hg4 _ (nt_of h3D), hm3, hg4, upd_same, ((((ra.sub ex1.sub).sub ex2.sub).sub ex3.sub).sub ex4.sub).append (.cons rd .nil), ?_⟩
              simpa [R.bind_ok] using q
            · exact q.elim
  · have e : i = ys.length := by omega
    subst e
    refine .inl ⟨Iters.stop it sb rl (Nat.le_refl _), ?_⟩
    rw [List.drop_length] at q
    simp only [compL, R.bind_ok, List.append_nil] at q
    exact hNx G m H st vs' acc (.inr sb) ex rl hm hg hH ra q
def eLc2 (vs vs1 : List Nat) (tg : Tg) (ei : EI) (tt : ET) (tg1 : Tg) (ei1 : EI) (tt1 : ET) (ee : EE) : EE := fun env st => (ei env st).bind fun xs s => (compL2 tg tt ei1 vs1 tg1 tt1 ee (wipeE env vs) xs s).bind fun ds s2 => if small ds.length = true then .ok (.d (.list ds)) s2 else .bad
theorem compL2_noX {vs1 : List Nat} (env : Ev) : ∀ (xs : List D) (st : Sto) (e : Exn) (s : Sto), compL2 tg tt ei1 vs1 tg1 tt1 ee env xs st ≠ .exc e s
  | [], st, e, s => by simp [compL2]
  | x :: xs, st, e, s => by
    simp only [compL2]
    split
    · simp
    · rename_i e1 _
      cases tt e1 st with
      | bad => simp [noX]
      | exc _ _ => simp [noX]
      | ok b s1 =>
        simp only [noX, R.bind_ok]
        cases b with
        | false => exact compL2_noX env xs s1 e s
        | true =>
          cases ei1 e1 s1 with
          | bad => simp [noX]
          | exc _ _ => simp [noX]
          | ok ys s2 =>
            simp only [noX, R.bind_ok]
            cases q : compL tg1 tt1 ee (wipeE e1 vs1) ys s2 with
            | bad => simp
            | exc e' s' => exact absurd q (compL_noX _ _ _ _ _)
            | ok ds s3 =>
              simp only [R.bind_ok]
              cases q : compL2 tg tt ei1 vs1 tg1 tt1 ee env xs s3 with
              | ok _ _ => simp
              | bad => simp
              | exc e' s' => exact absurd q (compL2_noX env xs s3 e' s')
theorem lc2_post {vs vs1 : List Nat} {σ : L2.St} {H : Hp} {Q : VK} (hsl : ∀ i ∈ tg.slots, i ∈ vs) (hsl1 : ∀ i ∈ tg1.slots, i ∈ vs1)
    (h : tE (rc X cl) W (eLc2 vs vs1 tg ei tt tg1 ei1 tt1 ee) σ H Q) :
    tLc2 (tI (rc X cl) W ei) (tg.g X.K) (tT (rc X cl) WF tt) (tI (rc X cl) WF ei1) (tg1.g X.K) (tT (rc X cl) WF tt1) (tE (rc X cl) WF ee) vs vs1 σ H Q := by
  obtain ⟨G, m, env, st, rl, en, p⟩ := h
  refine ⟨G, m, env, st, rl, en, Post.bindE p fun xs s1 J H1 G1 m1 e0 e1 rl1 it p1 => fun D' hD => ?_⟩
  have en1 := en.ext e1
  let fz : List D → Sto → R Val := fun ds s2 => if small ds.length = true then .ok (.d (.list ds)) s2 else .bad
  have p2 : Post (rc X cl) (RepV (rc X cl)) G1 m1 H1 Q (fun _ _ _ => False) ((compL2 tg tt ei1 vs1 tg1 tt1 ee (wipeE env vs) xs s1).bind fz) := by
    cases q : compL2 tg tt ei1 vs1 tg1 tt1 ee (wipeE env vs) xs s1 with
    | bad => rw [q] at p1; exact p1
    | exc e s => exact absurd q (compL2_noX _ _ _ _ _)
    | ok ds s2 =>
      rw [q] at p1
      show Post _ _ _ _ _ _ _ (if small ds.length = true then _ else _)
      simp only [R.bind_ok] at p1
      split
      · rename_i hs; rw [if_pos hs] at p1; exact p1
      · rename_i hs; rw [if_neg hs] at p1; exact p1
  have hfz : ∀ l s, Post (rc X cl) (RepV (rc X cl)) G1 m1 H1 Q (fun _ _ _ => False) (fz l s) → l.length ≤ 1000000 := fun l s z => by
    show l.length ≤ _
    by_cases hs : small l.length = true
    · exact of_decide_eq_true hs
    · have : fz l s = .bad := if_neg hs
      rw [this] at z; exact z.elim
  let St : Nat → Hp → Prop := fun i H => ∃ G m st vs' acc, Ext G1 m1 H1 G m H ∧ Rl (rc X cl) G m H st ∧ D' ∉ m ∧ G D' = none ∧ H D' = some (.lst vs') ∧ RepAll (rc X cl) G vs' acc ∧
    Post (rc X cl) (RepV (rc X cl)) G1 m1 H1 Q (fun _ _ _ => False) ((compL2 tg tt ei1 vs1 tg1 tt1 ee (wipeE env vs) (xs.drop i) st).bind fun ds s => fz (acc ++ ds) s)
  refine ⟨fun i k H => k = xs.length - i ∧ i ≤ xs.length ∧ St i H, ⟨xs.length, by simp, Nat.zero_le _, G1, m1, s1, [], [], (Ext.refl _ _ _).side hD _, rl1.side (rl1.notin hD) (rl1.freeG hD) _ (nt_none hD), rl1.notin hD, rl1.freeG hD, upd_same, .nil, by simpa using p2⟩, ?_⟩
  rintro i k H ⟨rfl, hi, G, m, st, vs', acc, ex, rl, hm, hg, hH, ra, q⟩
  by_cases hlt : i < xs.length
  · refine .inr ⟨Iters.go it ex.sub rl hlt, St (i + 1), fun H' z => ⟨xs.length - (i + 1), by omega, rfl, hlt, z⟩, fun x H2 y => ?_⟩
    obtain ⟨G2, ex2, rl2, rx⟩ := Iters.yld it ex.sub rl y (List.getElem?_eq_getElem hlt)
    have h2D : H2 D' = some (.lst vs') := ex2.frm _ _ hH hm
    rw [List.drop_eq_getElem_cons hlt] at q
    simp only [compL2] at q
    split at q
    · exact q.elim
    · rename_i e2 ee1
      have en2 : EnvR (rc X cl) G2 m (L2.wipe σ vs) (wipeE env vs) := ((en1.ext ex).ext ex2).wipe vs
      refine Tg.g_of rl2 en2 rx ee1 fun σ2 o2 en3 => ⟨wipe_out o2 hsl, G2, m, e2, st, rl2, en3, ?_⟩
      rw [R.bind_assoc] at q
      cases et : tt e2 st with
      | bad => rw [et] at q; exact q.elim
      | exc e s => rw [et] at q; exact q.elim
      | ok b s2 =>
        rw [et] at q
        intro b' H3 G3 m3 ex3 rl3 rb
        cases (show b' = b from rb)
        have h3D : H3 D' = some (.lst vs') := ex3.frm _ _ h2D hm
        have hm3 : D' ∉ m3 := fun z => (ex3.new _ z).elim hm (fun w => by rw [h2D] at w; cases w)
        have hg3 : G3 D' = none := stayG (ex2.trans ex3) hg hm (by rw [hH]; simp)
        cases b with
        | false =>
          rw [if_neg (by decide)]
          exact ⟨G3, m3, s2, vs', acc, (ex.trans ex2).trans ex3, rl3, hm3, hg3, h3D, (ra.sub ex2.sub).sub ex3.sub, q⟩
        | true =>
          rw [if_pos rfl]
          refine ⟨G3, m3, e2, s2, rl3, en3.ext ex3, ?_⟩
          simp only [R.bind_ok, noX] at q
          cases ev : ei1 e2 s2 with
          | bad => rw [ev] at q; exact q.elim
          | exc e s => rw [ev] at q; exact q.elim
          | ok ys s3 =>
            rw [ev] at q
            intro J1 H4 G4 m4 ex4 rl4 it1
            simp only [R.bind_ok, noX] at q
            have h4D : H4 D' = some (.lst vs') := ex4.frm _ _ h3D hm3
            have hm4 : D' ∉ m4 := fun z => (ex4.new _ z).elim hm3 (fun w => by rw [h3D] at w; cases w)
            have hg4 : G4 D' = none := stayG ex4 hg3 hm3 (by rw [h3D]; simp)
            refine lc_in (K := fun l s => (compL2 tg tt ei1 vs1 tg1 tt1 ee (wipeE env vs) (xs.drop (i + 1)) s).bind fun es s4 => fz (l ++ es) s4) (G0 := G1) (m0 := m1) (H0 := H1) (Q := Q) (acc0 := acc) hsl1 it1 hD ((en3.ext ex3).ext ex4) (fun l s z => ?_) (fun Ga ma Ha sa va ac _ exa rla hma hga hHa raa pa => ⟨Ga, ma, sa, va, ac, exa, rla, hma, hga, hHa, raa, pa⟩)
              ((((ex.trans ex2).trans ex3).trans ex4)) rl4 hm4 hg4 h4D (((ra.sub ex2.sub).sub ex3.sub).sub ex4.sub) ?_
            · cases qc : compL2 tg tt ei1 vs1 tg1 tt1 ee (wipeE env vs) (xs.drop (i + 1)) s with
              | bad => rw [qc] at z; exact z.elim
              | exc e s => exact absurd qc (compL2_noX _ _ _ _ _)
              | ok es s4 =>
                rw [qc] at z
                have := hfz _ _ z
                simp at this; omega
            · rw [R.bind_assoc] at q
              simpa [R.bind_assoc, R.bind_ok] using q
  · have e : i = xs.length := by omega
    subst e
    refine .inl ⟨Iters.stop it ex.sub rl (Nat.le_refl _), ?_⟩
    rw [List.drop_length] at q
    simp only [compL2, R.bind_ok, List.append_nil] at q
    have q' : Post (rc X cl) (RepV (rc X cl)) G1 m1 H1 Q (fun _ _ _ => False) (fz acc st) := q
    by_cases hs : small acc.length = true
    · have : fz acc st = .ok (.d (.list acc)) st := if_pos hs
      rw [this] at q'
      obtain ⟨r2, ex2, sb⟩ := rl.laySide ex hD hm hg hH
      exact q' _ H _ m ex2 r2 (.d (.lst upd_same (ra.sub sb)))
    · have : fz acc st = .bad := if_neg hs
      rw [this] at q'; exact q'.elim
variable {scope : Scope} {own : List (Str × Nat)} {vs1 : List Nat}
theorem se_lc2 (hc : X.calm = true) (hN : X.N.Nodup) (hi : SI cl X W t a ei) (ok : BlkOk X.N X.env.scope scope own) (hv : ∀ i ∈ vs1, i ∈ own.map (·.2)) (hg : ∀ (s : Shared) (H : Hp) (C : Addr) (cc : List (Str × Addr)) (fp : List Addr), SG (X.blk s H scope (compEnvC scope cc C X.env) fp) t tg)
    (ht : ∀ (s : Shared) (H : Hp) (C : Addr) (cc : List (Str × Addr)) (fp : List Addr), STs cl (X.blk s H scope (compEnvC scope cc C X.env) fp) WF ifs tt)
    (hi1 : ∀ (s : Shared) (H : Hp) (C : Addr) (cc : List (Str × Addr)) (fp : List Addr), SI cl (X.blk s H scope (compEnvC scope cc C X.env) fp) WF t1 a1 ei1)
    (hg1 : ∀ (s : Shared) (H : Hp) (C : Addr) (cc : List (Str × Addr)) (fp : List Addr), SG (X.blk s H scope (compEnvC scope cc C X.env) fp) t1 tg1)
    (ht1 : ∀ (s : Shared) (H : Hp) (C : Addr) (cc : List (Str × Addr)) (fp : List Addr), STs cl (X.blk s H scope (compEnvC scope cc C X.env) fp) WF ifs1 tt1)
    (he : ∀ (s : Shared) (H : Hp) (C : Addr) (cc : List (Str × Addr)) (fp : List Addr), SE cl (X.blk s H scope (compEnvC scope cc C X.env) fp) WF elt ee) (hsl : ∀ i ∈ tg.slots, i ∈ own.map (·.2)) (hsl1 : ∀ i ∈ tg1.slots, i ∈ vs1) (hs : ∀ x, foldedSetIterable a X.env x = pure x := by intro _; rfl) (hs1 : ∀ env x, foldedSetIterable a1 env x = pure x := by intro _ _; rfl) :
    SE cl X W (.ListComp elt [⟨t, a, ifs, 0⟩, ⟨t1, a1, ifs1, 0⟩] scope pos) (eLc2 (own.map (·.2)) vs1 tg ei tt tg1 ei1 tt1 ee) := (pe_lc2 hc hN hi ok hv hg ht hi1 hg1 ht1 he hs hs1).impM fun σ H Q h => lc2_post hsl hsl1 h
end
end Mi
end

section
set_option maxRecDepth 100000
set_option autoImplicit false
namespace L2
open PySem PySem.Spec PyProof.Rows
section
variable {prog : Program} {w : World} {A : Around} {E : Value → Shared → Prop} {s : Shared}
end
end L2

namespace Mi
open PySem PySem.Spec L2
section
variable {cl : Nat → Addr} {X : Cx} {W : WX} {pos : Pos} {a b c o : Expr} {ea eb : EE}
/-- x, *rest = e -/
def sStar (i j : Nat) (e : EE) : ES := fun env st => (e env st).bindS env fun v s => match v with
  | .d (.tuple (x :: xs)) => .ok (.nx ((env.set i (some (.d x))).set j (some (.d (.list xs))))) s
  | _ => .bad
/-! ### several names at once, of a display -/
theorem gAll_vals {C : RC} {G : Hp} {m : List Addr} {H : Hp} : ∀ (is : List Nat) (vs : List V) (xs : List Val) (σ : L2.St) (env : Ev) (Q : L2.St → Hp → Prop), EnvR C G m σ env → RepVs C G m vs xs → xs.length = is.length →
    (∀ σ', EnvR C G m σ' (setVs is xs env) → Q σ' H) → gAll is vs σ H Q
  | [], _, [], σ, env, Q, en, r, hl, h => by cases r; exact ⟨rfl, h σ en⟩
  | [], _, _ :: _, σ, env, Q, en, r, hl, h => by simp at hl
  | _ :: _, _, [], σ, env, Q, en, r, hl, h => by simp at hl
  | i :: is, _, x :: xs, σ, env, Q, en, r, hl, h => by
    cases r with
    | cons r1 r2 => exact ⟨_, _, rfl, gAll_vals is _ xs _ _ Q (en.set r1 i) r2 (by simpa using hl) h⟩
theorem ss_parN {es ts : List Expr} {er : EA} {k k2 : Nat} {pt pt2 : Pos} {is : List Nat} (hc : X.calm = true) (ha : SA cl X W es er) (hg : PGs X ts (gAll is)) (hlen : is.length ≤ 1000) (hn : (assignEach ts X.env).length = is.length := by rfl) (hst : (assignEach ts X.env).findIdx? (·.1) = none := by rfl)
    (hs : swapsWithSole [.Tuple ts k pt] (.Tuple es k2 pt2) pos.line X.env = pure false := by rfl) (hw : swappedStores [.Tuple ts k pt] (.Tuple es k2 pt2) X.env = pure none := by rfl) :
    SS cl X W (.Assign [.Tuple ts k pt] (.Tuple es k2 pt2) pos) (sParN is er) := (ps_asg (pe_tup ha) (pg_tup hc hg hn hst) hs hw rfl).impM fun D σ H h => by
  obtain ⟨G, m, env, st, rl, en, p⟩ := h
  refine ⟨G, m, env, st, rl, en, Post.bindS en p fun v s1 x H1 G1 m1 _ e1 rl1 r1 p1 => ?_⟩
  split at p1
  · rename_i hl
    refine ⟨by rw [r1.length, hl, sizeLine_eq]; omega, fun p hp => ?_⟩
    obtain ⟨r2, ex⟩ := rl1.laid hp (.tup x)
    exact ⟨_, _, rfl, SqT.of upd_same, by rw [r1.length]; exact hl, gAll_vals is _ _ σ env _ ((en.ext e1).ext ex) (r1.ext ex) hl fun σ' en' => p1 σ' _ _ _ ex r2 en'⟩
  · exact p1.elim
/-! ### append, extend, pop -/
def eAppend (o a : EE) : EE := fun env st => (o env st).bind fun v s1 => match v with
  | .r i => (match s1[i]? with
    | some (.lst _) => (a env s1).bind fun u s2 => (match toD u s2 with
      | some (x, s3) => (match s3[i]? with
        | some (.lst xs) => if xs.length < 1000000 then .ok (.d .none) (s3.set i (.lst (xs ++ [x]))) else .bad
        | _ => .bad)
      | none => .bad)
    | _ => .bad)
  | _ => .bad
theorem se_append {apos : Pos} (ho : SE cl X W o ea) (ha : SE cl X W a eb) (hbase : attributeBase o "append" X.env (eval o X.env) = eval o X.env := by rfl)
    (hfew : ((backTo pos (starEach [a] X.env)).all (fun x => !x.1) && (backToKw pos (keywordEach [] X.env)).all (fun x => x.1.isSome) && decide ([a].length + ([] : List Keyword).length + (if ([] : List Keyword).isEmpty then 0 else 1) < 30)) = true := by rfl)
    (hline : (apos.endLine == pos.line) = true := by rfl) (hs : starEach [a] X.env = (false, eval a X.env) :: starEach [] X.env := by rfl) (hplain : (backTo pos (starEach [] X.env)).any (·.1) = false := by rfl) :
    SE cl X W (.Call (.Attribute o "append" apos) [a] [] pos) (eAppend ea eb) :=
  (pe_bm PySem.F.plainAttrs_list PySem.F.slot_list_append PySem.F.type_list_append mt_append ho (pa_cons ha pa_nil hs) hbase hfew hline hs hplain).impM fun σ H Q h => by
  obtain ⟨G, m, env, st, rl, en, p⟩ := h
  refine ⟨G, m, env, st, rl, en, Post.bindE p fun v s1 x H1 G1 m1 _ e1 rl1 r1 p1 => ?_⟩
  split at p1
  · rename_i i
    cases r1 with
    | r q =>
      split at p1
      · rename_i ys e
        obtain ⟨vs, hv, ra⟩ := rl1.obj _ _ _ e q
        refine ⟨.inl ⟨rfl, vs, SqL.of hv⟩, G1, m1, env, s1, rl1, en.ext e1, Post.bindE p1 fun u s2 y H2 G2 m2 _ e2 rl2 r2 p2 => ?_⟩
        split at p2
        · rename_i d s3 ed
          obtain ⟨G3, rl3, ex3, rd⟩ := toD_rep rl2 r2 ed
          split at p2
          · rename_i xs ex
            split at p2
            · rename_i hl
              have q2 := e2.pre _ _ q
              obtain ⟨vs2, hv2, ra2⟩ := rl3.obj _ _ _ ex q2
              refine ⟨_, vs2, y, rfl, rfl, hv2, by rw [ra2.length, sizeLine_eq]; omega, ?_⟩
              obtain ⟨rl4, ex4⟩ := rl3.write q2 ex rfl (.lst (vs2 ++ [y])) (.lst (xs ++ [d])) ⟨_, upd_same, ra2.append (.cons rd .nil)⟩
              exact p2 _ _ _ _ (ex3.trans ex4) rl4 (.d .non)
            · exact p2.elim
          · exact p2.elim
        · exact p2.elim
      · exact p1.elim
  · exact p1.elim
end
end Mi
end

section
set_option maxRecDepth 100000
set_option autoImplicit false
namespace Mi
open PySem PySem.Spec L2
/-! ### dicts: d[k], d[k] = v, {}, d.get(k, x), the walk, the comprehension -/
def kPut (ps : List (Int × D)) (i : Int) (x : D) : List (Int × D) := if (ps.any fun p => decide (p.1 = i)) = true then ps.map (fun p => if p.1 = i then (p.1, x) else p) else ps ++ [(i, x)]
def nPut (ps : List (D × D)) (k : NestedKey) (kd x : D) : List (D × D) := if (nFind ps k).isSome = true then ps.map (fun p => if nk p.1 = some k then (p.1, x) else p) else ps ++ [(kd, x)]
section
variable {C : RC} {G : Hp}
theorem RepN.append : ∀ {ps qs : List (D × D)} {xs ys : List (NestedKey × Addr × Value)}, RepN C G ps xs → RepN C G qs ys → RepN C G (ps ++ qs) (xs ++ ys)
  | _, _, _, _, .nil, k => k
  | _, _, _, _, .cons h1 h2 h3 h4 h5 h6, k => .cons h1 h2 h3 h4 h5 (RepN.append h6 k)
theorem RepN.length : ∀ {ps : List (D × D)} {xs : List (NestedKey × Addr × Value)}, RepN C G ps xs → xs.length = ps.length
  | _, _, .nil => rfl
  | _, _, .cons h1 h2 h3 h4 h5 h6 => by simp [RepN.length h6]
end
section
variable {cl : Nat → Addr} {X : Cx} {W : WX} {pos pos' tpos : Pos} {o i e value : Expr} {eo ei ev : EE}
/-- {} -/
def eDNewK : EE := fun _ st => .ok (.r st.length) (st ++ [.dK []])
def eDNewN : EE := fun _ st => .ok (.r st.length) (st ++ [.dN []])
/-- d[k] = v -/
def sDPut (eo ei ev : EE) : ES := fun env st => (ev env st).bindS env fun v s1 => (eo env s1).bindS env fun x s2 => (ei env s2).bindS env fun y s3 => match x, y, toD v s3 with
  | .r j, .d kd, some (d, s4) => (match s4[j]? with
    | some (.dK ps) => (match kd with
      | .int i => if ps.length < 1000000 then .ok (.nx env) (s4.set j (.dK (kPut ps i d))) else .bad
      | _ => .bad)
    | some (.dN ps) => (match kd with
      | .tuple xs => (match nk (.tuple xs) with
        | some k => if k.depth ≤ 8 ∧ ps.length < 1000000 then .ok (.nx env) (s4.set j (.dN (nPut ps k (.tuple xs) d))) else .bad
        | none => .bad)
      | _ => .bad)
    | _ => .bad)
  | _, _, _ => .bad
end
end Mi
end

section
set_option maxRecDepth 100000
set_option autoImplicit false
namespace Mi
open PySem PySem.Spec L2
/-! ### a dict is frozen -/
section
variable {C : RC} {G : Hp} {m : List Addr} {H : Hp} {st : Sto}
end
section
variable {cl : Nat → Addr} {X : Cx} {W : WX} {pos apos cpos : Pos} {e o i f t a c kx vx : Expr} {ee eo ei ef : EE} {te : TE}
def eFrz (ee : EE) : EE := fun env st => (ee env st).bind fun v s => match v with
  | .r j => (match s[j]? with
    | some (.dK ps) => .ok (.d (.dict (ps.map fun p => (.int p.1, p.2)))) (s.set j .gone)
    | some (.dN ps) => .ok (.d (.dict ((.none, .none) :: ps))) (s.set j .gone)
    | _ => .bad)
  | _ => .bad
/-! ### the keys of a frozen dict -/
def iKeys (e : EE) : EI := fun env st => (e env st).bind fun v s => match v with
  | .d (.dict kvs) => (match dcD kvs with
    | some (.k ps) => .ok (ps.map fun p => .int p.1) s
    | _ => .bad)
  | _ => .bad
/-! ### list(d) -/
/-! ### d.get(k, x) -/
end
end Mi
end

section
set_option maxRecDepth 100000
set_option autoImplicit false
namespace Mi
open PySem PySem.Spec L2
/-! ### {k: v for .. in .. if ..}, k an int -/
def compD (tg : Tg) (tt : ET) (ek ee : EE) (env : Ev) : List D → List (Int × D) → Sto → R (List (Int × D))
  | [], acc, st => .ok acc st
  | x :: xs, acc, st => match tg.put x env with
    | none => .bad
    | some e1 => (noX (tt e1 st)).bind fun b s1 => match b with
      | false => compD tg tt ek ee env xs acc s1
      | true => (noX (ek e1 s1)).bind fun k s2 => (noX (ee e1 s2)).bind fun v s3 => match k, toD v s3 with
        | .d (.int i), some (d, s4) => compD tg tt ek ee env xs (kPut acc i d) s4
        | _, _ => .bad
section
variable {cl : Nat → Addr} {X : Cx} {W : WX} {pos : Pos} {t a c kx vx : Expr} {ifs : List Expr} {ei : EI} {tg : Tg} {tt : ET} {ek ee : EE}
/-- a dict that may be changed; one that is data -/
def eDcR (vs : List Nat) (tg : Tg) (ei : EI) (tt : ET) (ek ee : EE) : EE := fun env st => (ei env st).bind fun xs s => if small xs.length = true then (compD tg tt ek ee (wipeE env vs) xs [] s).bind fun ds s2 => .ok (.r s2.length) (s2 ++ [.dK ds]) else .bad
def eDcF (vs : List Nat) (tg : Tg) (ei : EI) (tt : ET) (ek ee : EE) : EE := fun env st => (ei env st).bind fun xs s => if small xs.length = true then (compD tg tt ek ee (wipeE env vs) xs [] s).bind fun ds s2 => .ok (.d (.dict (ds.map fun p => (.int p.1, p.2)))) s2 else .bad
variable {scope : Scope} {own : List (Str × Nat)}
end
end Mi
end

section
set_option maxRecDepth 100000
set_option autoImplicit false
namespace Mi
open PySem PySem.Spec L2 PyProof.Rows
/-! ### set(xs) of a list of ints, in the order of its table -/
abbrev newS (w : World) : Obj := { cls := .type "set", dict := none, data := .set #[] 0 (.fresh 0 0 (!w.params.followText "set-order")) }
section
variable {P : Program} {w : World} {A : Around} {E : Value → Shared → Prop} {s : Shared}
set_option maxHeartbeats 3200000 in
theorem set_of_list {l : Addr} {items : Array Value} (ns : List Int) {Q : Value → Shared → Prop} (hh : A.handled = none) (hl : s.heap.IsList l items) (hit : IntsAre items.toList ns) (hb : ns.length + 1 < scanBound)
    (h : ∀ (h' : Heap) (tk c : Nat), SetR w h' s.heap.objs.size (fun j => decide (j ∈ ns)) c → c ≤ ns.length → (∀ b o, s.heap.get? b = some o → h'.get? b = some o) → Q (.ref s.heap.objs.size) { s with heap := h', toks := tk }) : wpAny (model P w) A (call (.type "set") [.ref l]) Q E s := by
  have hisz : items.size = ns.length := by rw [← Array.length_toList]; exact IntsAre.length hit
  obtain ⟨c, tl, hmro⟩ := F.called_set.mro
  have hmade := F.called_set.made; have hsub := F.called_set.sub
  refine wpAny_call (codeAny_of_tree ?_); show wpAny _ _ (callAny (.type "set") _) _ _ _
  refine wpAny_pure ⟨Code.quiet_builtin _ (by decide +kernel), codeAny_builtin F.entry_type_call ?_⟩; rw [Around.under_plain (weight_type_call_type "set" [.ref l] []) rfl]
  have h1 := F.called_set.notType; have h2 := F.called_set.canCreate; have hct := F.typeCall_set_1 (.ref l)
  repeat (any_goals (first | assumption | wp_step))
  refine codeAny_mono (code_set_led1 (.ref l) (E := E) (Q₁ := fun obj t => obj = .ref s.heap.objs.size ∧ t = { s with heap := s.heap.push (newS w) }) ⟨rfl, rfl⟩) fun r t hr => ?_
  rcases r with e | fl
  · exact hr
  · cases fl with
    | ret obj =>
      obtain ⟨rfl, rfl⟩ := hr
      have hS : (s.heap.push (newS w)).get? s.heap.objs.size = some (newS w) := Heap.get?_push_size _ rfl
      have hT : Shared.TypeIs { s with heap := s.heap.push (newS w) } (.ref s.heap.objs.size) "set" := ⟨_, hS, rfl⟩
      have hli := F.called_set.init.lookup; have hbi := F.called_set.init.bind (.ref s.heap.objs.size)
      repeat (any_goals (first | assumption | wp_step))
      refine codeAny_mono (codeAny_call_builtin (R := wants (fun r t2 => r = .none ∧ ∃ h' tk c, t2 = { s with heap := h', toks := tk } ∧ SetR w h' s.heap.objs.size (fun j => decide (j ∈ ns)) c ∧ c ≤ ns.length ∧ (∀ b o, s.heap.get? b = some o → h'.get? b = some o)) E) F.called_set.init.plain F.entry_set_init (check_set_init_1 hT ?_)) fun r2 t2 hr2 => ?_
      · obtain ⟨⟨ocls, odict, odata, oslots⟩, hol, hcl, nl, hdl⟩ := hl
        simp only at hcl hdl
        subst hcl; subst hdl
        have hol' : (s.heap.push (newS w)).get? l = some { cls := .type "list", dict := odict, data := .seq items nl, slots := oslots } := Heap.get?_push_of_some _ hol
        have hsls := F.sub_list_set; have hslf := F.sub_list_frozenset
        have hne : (Value.type "list" == Value.type "dict") = false := by decide
        have hl1 : (s.heap.push (newS w)).IsList l items := ⟨_, hol', rfl, nl, rfl⟩
        unfold Builtin.«set.__init__» noKeywords Builtin.Frozenset.updateFrom
        generalize hPI : pyIter = PI; wp_walk; subst hPI
        refine wpAny_pyIter_list hl1 ?_; refine wpAny_bind (wpAny_runValue ?_)
        have hlS : l < s.heap.objs.size := Heap.lt_size hol
        have hh3 : A.in1.in1.in1.handled = none := by simp [hh]
        have hneI : l ≠ (s.heap.push (newS w)).objs.size := by rw [Heap.size_push]; exact Nat.ne_of_lt (Nat.lt_succ_of_lt hlS)
        have hSf : s.heap.objs.size ∉ [(s.heap.push (newS w)).objs.size, l] := by
          rw [Heap.size_push]; simp only [List.mem_cons, List.mem_singleton, List.not_mem_nil, or_false, not_or]; exact ⟨Nat.ne_of_lt (Nat.lt_succ_self _), Nat.ne_of_gt hlS⟩
        have hval : ∀ (i : Nat) (v : Value), items[i]? = some v → ∃ k t, ns[i]? = some k ∧ v = .int k t := fun i v hv => by
          have hi : i < ns.length := by rw [← hisz]; exact (Array.getElem?_eq_some_iff.mp hv).1
          obtain ⟨t, e⟩ := IntsAre.int_at hit i v (by rw [Array.getElem?_toList]; exact hv)
          exact ⟨ns[i], t, List.getElem?_eq_getElem hi, by rw [e, List.getD_eq_getElem?_getD, List.getElem?_eq_getElem hi]; rfl⟩
        refine set_update_ints ((Walks.list hh3 _ l hneI items).toS) s.heap.objs.size hSf ns hisz hb hval (items.size - 0) 0 _ (by omega) (Nat.zero_le _) ⟨⟨_, Heap.get?_push_size _ rfl, rfl, rfl⟩, (hl1.push _)⟩ ?hS0 ?hR
        case hS0 => exact ⟨0, Nat.le_refl 0, setR_new_at (Heap.get?_push_of_some _ hS)⟩
        case hR =>
          rintro ⟨h', g2, d', tk', os'⟩ c' hm hc' hS'
          have eg : g2 = s.gens := hm.gens; have ed : d' = s.drawn := hm.drawn; have eo : os' = s.os := hm.os
          subst eg; subst ed; subst eo
          show wpAny _ _ _ _ _ _
          refine wpAny_pure ?_; show wpAny _ _ (ret Value.none) _ _ _
          rw [hisz] at hc'
          refine wpAny_pure ⟨rfl, h', tk', c', rfl, hS', hc', fun b o e => ?_⟩
          have hb0 : b < s.heap.objs.size := Heap.lt_size e
          refine hm.heap b o ?_ (Heap.get?_push_of_some _ (Heap.get?_push_of_some _ e))
          rw [Heap.size_push]
          simp only [List.mem_cons, List.mem_singleton, List.not_mem_nil, or_false, not_or]
          exact ⟨Nat.ne_of_lt hb0, Nat.ne_of_lt (Nat.lt_succ_of_lt hb0)⟩
      · rcases r2 with e | fl2
        · exact hr2
        · cases fl2 with
          | ret r =>
            obtain ⟨rfl, h', tk, c', rfl, hS', hc', hk'⟩ := hr2
            repeat (any_goals (first | assumption | wp_step))
            exact h _ _ _ hS' hc' hk'
          | _ => exact hr2.elim
    | _ => exact hr.elim
end
end Mi
end

section
set_option maxRecDepth 100000
set_option autoImplicit false
namespace Mi
open PySem PySem.Spec L2 PyProof.Rows
/-! ### {e for t in a if .. for t1 in a1 if ..}, e an int -/
section
variable {prog : Program} {w : World} {A : Around} {R : Result → Shared → Prop} {s : Shared} {elt t0 i0 t1 i1 : Expr} {fs0 fs1 : List Expr} {scope : Scope} {pos : Pos} {it acc : Value} {env : Env}
/-- an error within is told with the frame -/
abbrev nb (prog : Program) (w : World) (A : Around) (env : Env) (R : Result → Shared → Prop) : Value → Shared → Prop := notedBy (model prog w) A env fun e t => R (.error e) t
end
section
variable {X : Cx}
end
end Mi
end

section
set_option maxRecDepth 100000
set_option maxHeartbeats 2000000
set_option autoImplicit false
/-! sorted(a set of ints), any number of members -/
namespace Mi
open PySem PySem.Spec PyProof.Rows L2
section
variable {P : Program} {w : World} {A : Around} {E : Value → Shared → Prop} {s : Shared} {a : Addr}
theorem sorted_setA {S : Int → Bool} {n : Nat} {Q : Value → Shared → Prop} (R : SetR w s.heap a S n) (hh : A.handled = none) (hz : n ≤ sizeLine)
    (hQ : ∀ s' p (out : Array Value) (c : Nat) (ns : List Int), (∀ b o, s.heap.get? b = some o → s'.heap.get? b = some o) → s'.gens = s.gens → s'.os = s.os → s.heap.objs.size ≤ p →
      s'.heap.get? p = some (seqObj "list" out c) → IntsAre out.toList ns → ns.Pairwise (· < ·) → (∀ k, k ∈ ns ↔ S k = true) → ns.length = n → Q (.ref p) s') :
    wpAny (model P w) A (call (.builtin "sorted") [.ref a]) Q E s := by
  obtain ⟨o, es, ep, t, ho, hex, hd, g, nd, hm, hb, hf, hn, hr, hl⟩ := R
  refine Calls.call_function_entry kind_sorted plain_sorted entry_sorted (args_sorted1 _) ?_
  unfold Builtin.«sorted»
  refine wpAny_bind (m := checkCount "sorted" 1 1 _) (wpAny_pure ?_)
  refine wpAny_bind (collect_set (A := A.in1) hh ⟨o, ho, hex.1, hd⟩ hf hb hr hl fun s1 vs k1 hz1 g1 o1 pm => ?_)
  have hvl : vs.length = n := by rw [pm.length_eq, List.length_map, Array.length_toList]; exact hn
  have hI : IntsAre vs (vs.map Builtin.Re.reRawOf) := ints_of vs fun v hv => by
    obtain ⟨e, he, q⟩ := List.mem_map.mp (pm.mem_iff.mp hv)
    obtain ⟨k, tk, h1, _⟩ := g e he
    exact ⟨k, tk, by rw [← q]; exact h1⟩
  have pk : (vs.map Builtin.Re.reRawOf).Perm (es.toList.map keyOf) := by
    have q := pm.map Builtin.Re.reRawOf
    rw [List.map_map] at q
    exact q
  refine wpAny_bind (wpAny_newList ?_ (by rw [hvl]; exact hz))
  have hoL : (s1.heap.push (seqObj "list" vs.toArray 0)).get? s1.heap.objs.size = some (seqObj "list" vs.toArray 0) := Heap.get?_push_size _ rfl
  refine wpAny_bind (wpAny_holding (wpAny_call_entry slot_list_sort ⟨_, hoL, rfl⟩ entry_list_sort (SrtO.list_sort_ord SrtO.swo_int hoL (by rw [hvl]; exact hz) (fun h2 => SrtO.ints_sortable hI h2) fun out h1 h2 => ⟨_, rfl, ?_⟩) (args_list_sort _)))
  obtain ⟨a1, a2, a3⟩ := SrtO.ints_out hI h1 h2
  obtain ⟨c, hc⟩ := sortedHeap_at (vs := vs) (out := out.toArray) hoL
  have pn : (out.map SrtO.iv).Perm (es.toList.map keyOf) := a2.trans pk
  refine wpAny_pure ⟨_, rfl, hQ _ s1.heap.objs.size out.toArray c (out.map SrtO.iv) (fun b u e => ?_) g1 o1 hz1 hc (by simpa using a1) (lt_of_le_nodup _ a3 (pn.nodup_iff.mpr nd)) (fun k => by rw [pn.mem_iff, ← hm k]) ?_⟩
  · have q := k1 b u e
    have hlt := Heap.lt_size q
    show (sortedHeap (s1.heap.push (seqObj "list" vs.toArray 0)) s1.heap.objs.size vs out.toArray).get? b = some u
    rw [sortedHeap_old (Nat.ne_of_lt hlt) (by rw [size_push']; exact Nat.lt_succ_of_lt hlt)]
    exact Heap.get?_push_of_some _ q
  · rw [pn.length_eq, List.length_map, Array.length_toList]; exact hn
end
/-- sorted(found), any number of members -/
def rSortedSetA (w : World) : List V → Hp → VK → Prop := fun vs H Q => ∃ (a : Addr) (S : Int → Bool) (n : Nat), vs = [V.ref a] ∧ H a = some (SetO w a S n) ∧ n ≤ sizeLine ∧
  ∀ (ns : List Int) (p : Addr), ns.Pairwise (· < ·) → (∀ k : Int, k ∈ ns ↔ S k = true) → ns.length = n → H p = none → Q (.ref p) (upd H p (.lst (ns.map V.int)))
theorem cr_sortedSetA {X : Cx} (hc : X.calm = true) : CallR X (.builtin "sorted") (rSortedSetA X.w) := by
  intro pins s σ H vs us Q I r h
  obtain ⟨a, S, n, rfl, ha, h64, q⟩ := h
  have R := setO_get I ha
  rw [Vals.ref1 r]
  refine sorted_setA R (I.ok.hd hc) h64 fun s' p out c ns k g o hp hg hi hs hm hl => ?_
  have hlen : (ns.map V.int).length ≤ sizeLine := by rw [List.length_map, hl]; exact h64
  have hn : H p = none := I.hok.fresh hp
  have J : Inv X pins σ (upd H p (.lst (ns.map V.int))) { s with heap := s'.heap, gens := s'.gens, drawn := s'.drawn, toks := s'.toks } :=
    I.call (ch := []) (Un.laid k hp hn) (I.hok.laid k hp ⟨hlen, out.toList, c, vals_of_ints hi, hg⟩) (by rw [g]; exact I.bare) (fun _ z => nomatch z)
  have e : s' = { s with heap := s'.heap, gens := s'.gens, drawn := s'.drawn, toks := s'.toks } := by
    cases s'
    cases s
    cases o
    rfl
  rw [e]
  exact ⟨.ref p, _, J, rfl, q ns p hs hm hl hn⟩
end Mi
end

section
set_option maxRecDepth 100000
set_option autoImplicit false
namespace Mi
open PySem PySem.Spec L2
/-! ### rising lists -/
def insS (x : Int) : List Int → List Int
  | [] => [x]
  | y :: ys => if x < y then x :: y :: ys else if x = y then y :: ys else y :: insS x ys
def sortS (ns : List Int) : List Int := ns.foldl (fun s x => insS x s) []
theorem mem_insS (x k : Int) : ∀ ys : List Int, k ∈ insS x ys ↔ k = x ∨ k ∈ ys
  | [] => by simp [insS]
  | y :: ys => by
    unfold insS
    split
    · simp
    · split
      · rename_i h; subst h; simp
      · simp only [List.mem_cons, mem_insS x k ys]
        constructor
        · rintro (h | h | h) <;> simp [h]
        · rintro (h | h | h) <;> simp [h]
theorem insS_pw (x : Int) : ∀ ys : List Int, ys.Pairwise (· < ·) → (insS x ys).Pairwise (· < ·)
  | [], _ => by simp [insS]
  | y :: ys, h => by
    unfold insS
    have h2 := List.pairwise_cons.mp h
    split
    · rename_i q
      refine List.pairwise_cons.mpr ⟨fun z hz => ?_, h⟩
      rcases List.mem_cons.mp hz with e | e
      · omega
      · have := h2.1 z e; omega
    · split
      · exact h
      · refine List.pairwise_cons.mpr ⟨fun z hz => ?_, insS_pw x ys h2.2⟩
        rcases (mem_insS x z ys).mp hz with e | e
        · omega
        · exact h2.1 z e
theorem sortS_all (ns : List Int) : (sortS ns).Pairwise (· < ·) ∧ ∀ k, k ∈ sortS ns ↔ k ∈ ns := by
  have : ∀ (l s : List Int), s.Pairwise (· < ·) → (l.foldl (fun s x => insS x s) s).Pairwise (· < ·) ∧ ∀ k, k ∈ l.foldl (fun s x => insS x s) s ↔ k ∈ l ∨ k ∈ s := by
    intro l
    induction l with
    | nil => intro s h; exact ⟨h, fun k => by simp⟩
    | cons a l ih =>
      intro s h
      obtain ⟨h1, h2⟩ := ih (insS a s) (insS_pw a s h)
      refine ⟨h1, fun k => ?_⟩
      rw [List.foldl_cons, h2 k, mem_insS, List.mem_cons]
      constructor
      · rintro (h | h | h) <;> simp [h]
      · rintro ((h | h) | h) <;> simp [h]
  obtain ⟨h1, h2⟩ := this ns [] List.Pairwise.nil
  exact ⟨h1, fun k => by rw [show sortS ns = ns.foldl (fun s x => insS x s) [] from rfl, h2 k]; simp⟩
theorem rising_uniq : ∀ (l r : List Int), l.Pairwise (· < ·) → r.Pairwise (· < ·) → (∀ k, k ∈ l ↔ k ∈ r) → l = r
  | [], [], _, _, _ => rfl
  | [], b :: r, _, _, h => by have := (h b).mpr List.mem_cons_self; cases this
  | a :: l, [], _, _, h => by have := (h a).mp List.mem_cons_self; cases this
  | a :: l, b :: r, h1, h2, h => by
    have p1 := List.pairwise_cons.mp h1
    have p2 := List.pairwise_cons.mp h2
    have e : a = b := by
      rcases List.mem_cons.mp ((h a).mp List.mem_cons_self) with z | z
      · exact z
      · rcases List.mem_cons.mp ((h b).mpr List.mem_cons_self) with y | y
        · exact y.symm
        · have := p2.1 a z; have := p1.1 b y; omega
    subst e
    rw [rising_uniq l r p1.2 p2.2 fun k => ?_]
    constructor
    · intro hk
      rcases List.mem_cons.mp ((h k).mp (List.mem_cons_of_mem _ hk)) with z | z
      · subst z; exact absurd (p1.1 k hk) (by omega)
      · exact z
    · intro hk
      rcases List.mem_cons.mp ((h k).mpr (List.mem_cons_of_mem _ hk)) with z | z
      · subst z; exact absurd (p2.1 k hk) (by omega)
      · exact z
/-! ### a set being made -/
def SetAt (X : Cx) (H : Hp) (D' : Addr) (acc : List D) : Prop := ∃ S n, H D' = some (SetO X.w D' S n) ∧ n ≤ acc.length ∧ (∀ k : Int, S k = true ↔ PyData.int k ∈ acc) ∧ ∀ ns, intsOf acc = some ns → n = (sortS ns).length
section
variable {X : Cx} {H H' G G' : Hp} {m m' : List Addr} {D' : Addr} {acc : List D}
theorem SetAt.frm (h : SetAt X H D' acc) (e : Ext G m H G' m' H') (hm : D' ∉ m) : SetAt X H' D' acc := let ⟨S, n, h1, h2⟩ := h; ⟨S, n, e.frm _ _ h1 hm, h2⟩
theorem SetAt.ne (h : SetAt X H D' acc) : H D' ≠ none := let ⟨S, n, h1, _⟩ := h; by rw [h1]; simp
theorem SetAt.new : SetAt X (upd H D' (SetO X.w D' (fun _ => false) 0)) D' [] := ⟨_, 0, upd_same, Nat.le_refl _, fun k => by simp, fun ns e => by cases e; rfl⟩
end
theorem bb_sorted0 : bootBuiltins "sorted" = some (.builtin "sorted") := by decide +kernel
def srtD (ds : List D) (s : Sto) : R Val := match intsOf ds with
  | some ns => if ds.length ≤ 4000 ∧ (sortS ns).length ≤ 4000 then .ok (.d (.list ((sortS ns).map .int))) s else .bad
  | none => .bad
section
variable {cl : Nat → Addr} {X : Cx} {W : WX} {pos p p2 q : Pos} {t a t1 a1 c elt : Expr} {ifs ifs1 : List Expr} {ei ei1 : EI} {tg tg1 : Tg} {tt tt1 : ET} {ee ea : EE}
def eSortSc2 (vs vs1 : List Nat) (tg : Tg) (ei : EI) (tt : ET) (tg1 : Tg) (ei1 : EI) (tt1 : ET) (ee : EE) : EE := fun env st => (ei env st).bind fun xs s => (compL2 tg tt ei1 vs1 tg1 tt1 ee (wipeE env vs) xs s).bind srtD
theorem repAll_ints {C : RC} {G : Hp} : ∀ ns : List Int, RepAll C G (ns.map V.int) (ns.map PyData.int)
  | [] => .nil
  | _ :: r => .cons (.int _) (repAll_ints r)
variable {scope : Scope} {own : List (Str × Nat)} {vs1 : List Nat}
/-! ### sorted(set(xs)), sorted(xs) -/
def eSortSet (ea : EE) : EE := fun env st => (ea env st).bind fun v s => match sqOf v s with
  | some xs => srtD xs s
  | none => .bad
theorem setR_n {w : World} {h : Heap} {b : Addr} {ns : List Int} {k : Nat} (R : SetR w h b (fun j => decide (j ∈ ns)) k) : k = (sortS ns).length := by
  obtain ⟨o, es, ep, t, ho, hex, hd, g, nd, hm, hb, hf, hn, hr⟩ := R
  have nd2 : (sortS ns).Nodup := (sortS_all ns).1.imp fun h => Int.ne_of_lt h
  have pm : (es.toList.map keyOf).Perm (sortS ns) := (List.perm_ext_iff_of_nodup nd nd2).mpr fun x => by
    rw [← hm x, (sortS_all ns).2 x, decide_eq_true_eq]
  have := pm.length_eq
  rw [List.length_map, Array.length_toList, hn] at this
  exact this
def rSetI (X : Cx) : List V → Hp → VK → Prop := fun xs H Q => ∃ (l : Addr) (ns : List Int), xs = [.ref l] ∧ (SqL X.K H l (ns.map V.int) ∨ SqT X.K H l (ns.map V.int)) ∧ ns.length ≤ 4000 ∧ ∀ D', H D' = none → Q (.ref D') (upd H D' (SetO X.w D' (fun j => decide (j ∈ ns)) (sortS ns).length))
theorem cr_setI (hc : X.calm = true) : CallR X (.type "set") (rSetI X) := by
  intro pins s σ H xs us Q I r h
  obtain ⟨l, ns, rfl, hq, hl, q⟩ := h
  obtain ⟨u, rfl, rx⟩ := vals1 r
  cases rx
  have fin : ∀ (h' : Heap) (tk c : Nat), SetR X.w h' s.heap.objs.size (fun j => decide (j ∈ ns)) c → c ≤ ns.length → (∀ b o, s.heap.get? b = some o → h'.get? b = some o) → EP X pins σ Q (.ref s.heap.objs.size) { s with heap := h', toks := tk } := fun h' tk c R _ k => by
    have e := setR_n R
    subst e
    exact ⟨.ref s.heap.objs.size, _, I.laid k (Nat.le_refl _) (setO_new R), rfl, q _ (I.hok.fresh (Nat.le_refl _))⟩
  rcases hq with hq | hq
  · obtain ⟨its, r2, pl, hz⟩ := I.list hq
    exact set_of_list ns (I.ok.hd hc) pl.isList (by simpa using r2.ints) (by unfold scanBound; omega) fin
  · obtain ⟨its, r2, pl, hz⟩ := I.tuple hq
    exact call_set_tupI ns (I.ok.hd hc) pl (by simpa using r2.ints) (by unfold scanBound; omega) fin
theorem bb_set0 : bootBuiltins "set" = some (.type "set") := by decide +kernel
theorem ints_vals {C : RC} {G : Hp} : ∀ {ns : List Int} {vs : List V}, RepAll C G vs (ns.map PyData.int) → vs = ns.map V.int
  | [], _, h => by cases h; rfl
  | _ :: ns, _, h => by
    cases h with
    | cons h1 h2 => cases h1; rw [ints_vals h2]; rfl
theorem se_sortSet (hc : X.calm = true) (hgs : Gl X "sorted") (hms : X.mg "sorted" = none) (hg2 : Gl X "set") (hm2 : X.mg "set" = none) (ha : SE cl X W a ea) (na : starEach [a] X.env = (false, eval a X.env) :: starEach [] X.env := by rfl) :
    SE cl X W (.Call (.Name "sorted" p) [.Call (.Name "set" p2) [a] [] q] [] pos) (eSortSet ea) := by
  refine (pe_callB (cr_sortedSetA hc) hgs hms bb_sorted0 (pa_cons (pe_callTy (cr_setI hc) hg2 hm2 bb_set0 (pa_cons ha pa_nil na) (by decide) (by decide) na) pa_nil)).impM fun σ H Q h => ?_
  obtain ⟨G, m, env, st, rl, en, p⟩ := h
  refine ⟨G, m, env, st, rl, en, Post.bindE p fun v s1 x H1 G1 m1 _ e1 rl1 r1 p1 => ?_⟩
  split at p1
  · rename_i ys e2
    unfold srtD at p1
    split at p1
    · rename_i ns e3
      split at p1
      · rename_i hl
        obtain ⟨b, vs, rfl, k, sa⟩ := sq_of rl1 r1 e2
        have e4 := intsOf_eq e3
        subst e4
        have e5 := ints_vals sa
        subst e5
        refine ⟨b, ns, rfl, k.imp SqL.of id, by simpa using hl.1, fun D' hD => ?_⟩
        refine ⟨D', _, _, rfl, upd_same, (by rw [sizeLine_eq]; have := hl.2; omega), fun ns' p' hp hmem hlen hpn => ?_⟩
        have : ns' = sortS ns := rising_uniq _ _ hp (sortS_all ns).1 fun k => by rw [hmem k, decide_eq_true_eq, (sortS_all ns).2 k]
        subst this
        have r2 := rl1.side (rl1.notin hD) (rl1.freeG hD) (SetO X.w D' (fun j => decide (j ∈ ns)) (sortS ns).length) (nt_none hD)
        have ex2 : Ext G1 m1 H1 G1 m1 (upd H1 D' (SetO X.w D' (fun j => decide (j ∈ ns)) (sortS ns).length)) := (Ext.refl _ _ _).side hD _
        obtain ⟨r3, e3'⟩ := r2.laid hpn (.lst ((sortS ns).map V.int))
        exact p1 _ _ _ m1 (ex2.trans e3') r3 (.d (.lst upd_same (repAll_ints _)))
      · exact p1.elim
    · exact p1.elim
  · exact p1.elim
end
end Mi
end

section
set_option maxRecDepth 100000
set_option autoImplicit false
namespace Mi
open PySem PySem.Spec L2
section
variable {cl : Nat → Addr} {X : Cx} {W : WX} {pos p apos q : Pos} {t a b o : Expr} {ea eb : EE}
/-! ### xs.pop(), xs.extend(ys) -/
def ePop (eo : EE) : EE := fun env st => (eo env st).bind fun v s => match v with
  | .r i => (match s[i]? with
    | some (.lst xs) => (match xs[xs.length - 1]? with
      | some y => .ok (.d y) (s.set i (.lst xs.dropLast))
      | none => .bad)
    | _ => .bad)
  | _ => .bad
theorem RepAll.dropLast {C : RC} {G : Hp} {vs : List V} {ds : List D} (h : RepAll C G vs ds) : RepAll C G vs.dropLast ds.dropLast := by
  rw [List.dropLast_eq_take, List.dropLast_eq_take, h.length]
  exact h.take _
def eExtend (eo ea : EE) : EE := fun env st => (eo env st).bind fun v s1 => match v with
  | .r i => (match s1[i]? with
    | some (.lst _) => (ea env s1).bind fun u s2 => (match lsOf u s2 with
      | some ys => (match s2[i]? with
        | some (.lst xs) => if xs.length + ys.length ≤ 1000000 then .ok (.d .none) (s2.set i (.lst (xs ++ ys))) else .bad
        | _ => .bad)
      | none => .bad)
    | _ => .bad)
  | _ => .bad
theorem se_extend (ho : SE cl X W o ea) (ha : SE cl X W a eb) (hbase : attributeBase o "extend" X.env (eval o X.env) = eval o X.env := by rfl)
    (hfew : ((backTo pos (starEach [a] X.env)).all (fun x => !x.1) && (backToKw pos (keywordEach [] X.env)).all (fun x => x.1.isSome) && decide ([a].length + ([] : List Keyword).length + (if ([] : List Keyword).isEmpty then 0 else 1) < 30)) = true := by rfl)
    (hline : (apos.endLine == pos.line) = true := by rfl) (hs : starEach [a] X.env = (false, eval a X.env) :: starEach [] X.env := by rfl) (hplain : (backTo pos (starEach [] X.env)).any (·.1) = false := by rfl) :
    SE cl X W (.Call (.Attribute o "extend" apos) [a] [] pos) (eExtend ea eb) :=
  (pe_bm PySem.F.plainAttrs_list PySem.F.slot_list_extend PySem.F.type_list_extend mt_extend ho (pa_cons ha pa_nil hs) hbase hfew hline hs hplain).impM fun σ H Q h => by
  obtain ⟨G, m, env, st, rl, en, p⟩ := h
  refine ⟨G, m, env, st, rl, en, Post.bindE p fun v s1 x H1 G1 m1 _ e1 rl1 r1 p1 => ?_⟩
  split at p1
  · rename_i i
    cases r1 with
    | r q =>
      split at p1
      · rename_i ys e
        obtain ⟨vs, hv, ra⟩ := rl1.obj _ _ _ e q
        refine ⟨.inl ⟨rfl, vs, SqL.of hv⟩, G1, m1, env, s1, rl1, en.ext e1, Post.bindE p1 fun u s2 y H2 G2 m2 _ e2 rl2 r2 p2 => ?_⟩
        split at p2
        · rename_i zs ez
          split at p2
          · rename_i xs ex
            split at p2
            · rename_i hl
              obtain ⟨b', us, rfl, hb, rb⟩ := ls_of rl2 r2 ez
              have q2 := e2.pre _ _ q
              obtain ⟨vs2, hv2, ra2⟩ := rl2.obj _ _ _ ex q2
              refine ⟨_, b', vs2, us, rfl, rfl, hv2, hb, by rw [ra2.length, rb.length, sizeLine_eq]; omega, ?_⟩
              obtain ⟨rl4, ex4⟩ := rl2.write q2 ex rfl (.lst (vs2 ++ us)) (.lst (xs ++ zs)) ⟨_, upd_same, ra2.append rb⟩
              exact p2 _ _ _ _ ex4 rl4 (.d .non)
            · exact p2.elim
          · exact p2.elim
        · exact p2.elim
      · exact p1.elim
  · exact p1.elim
/-! ### range(i, j), list(range(n)) -/
def rngD (i : Int) (n : Nat) : List D := (List.range n).map fun k => PyData.int (i + (k : Nat))
def iRange2 (a : EA) : EI := fun env st => (a env st).bind fun vs s => match vs with
  | [.d (.int i), .d (.int j)] => if -(2 ^ 60) ≤ i ∧ i < 2 ^ 60 ∧ -(2 ^ 60) ≤ j ∧ j < 2 ^ 60 then .ok (rngD i (j - i).toNat) s else .bad
  | _ => .bad
def eListRg (ea : EE) : EE := fun env st => (ea env st).bind fun v s => match v with
  | .d (.int n) => if -(2 ^ 60) ≤ n ∧ n ≤ 1000000 then .ok (.d (.list (rngD 0 n.toNat))) s else .bad
  | _ => .bad
end
end Mi
end

section
set_option maxRecDepth 100000
set_option autoImplicit false
namespace Mi
open PySem PySem.Spec L2
/-! ### the head's facts: defs by names, and one more check -/
abbrev AlM : Type := Bool × List He.FnW
def obsM (fn : List He.DefD) (chk : PySem.W.Frag → Bool) (K : PySem.W.Frag) : AlM := (chk K && fn.all fun d => d.ok K, fn.map fun d => He.fnW K d.at_)
def valM (fn : List He.DefD) : AlM := (true, fn.map He.DefD.val)
def SaysM (fn : List He.DefD) (chk : PySem.W.Frag → Bool) (K : PySem.W.Frag) : Prop := obsM fn chk K = valM fn
def obsMG (n : Nat) (fn : List He.DefD) (chk : PySem.W.Frag → Bool) (g : Addr → Option Obj) : AlM := obsM fn chk (He.frG g (He.asD g n))
def hookM (n : Nat) (fn : List He.DefD) (chk : PySem.W.Frag → Bool) : PySem.W.Hook where
  α := AlM
  obs := fun s => obsMG n fn chk s.heap.get?
  val := fun _ => valM fn
  says := fun _ h => ∃ K : PySem.W.Frag, K.In h ∧ SaysM fn chk K
  of := fun _ _ e => ⟨_, He.frG_in, e⟩
  keeps := fun _ _ _ ⟨K, hK, c⟩ k => ⟨K, PySem.W.Frag.In.keeps hK k, c⟩
theorem obsMG_eq {n : Nat} {fn : List He.DefD} {chk : PySem.W.Frag → Bool} {g : Addr → Option Obj} {s : Shared} (h : ∀ a, g a = s.heap.get? a) : obsMG n fn chk g = (hookM n fn chk).obs s := by
  have e : g = s.heap.get? := funext h
  rw [e] <;> rfl
section
variable {fn : List He.DefD} {chk : PySem.W.Frag → Bool} {K : PySem.W.Frag}
theorem SaysM.check (c : SaysM fn chk K) : chk K = true := by
  have c1 : (chk K && fn.all fun d => d.ok K) = true := congrArg (fun z : AlM => z.1) c
  exact (Bool.and_eq_true_iff.mp c1).1
theorem SaysM.def_ (c : SaysM fn chk K) (i : Nat) {d : He.DefD} (h : fn[i]? = some d := by rfl) : ∃ fd, FunD K d.name d.qual d.params d.body d.scope (d.dvs K) (d.kws K) (He.fAd K d.at_) fd := by
  have c1 : (chk K && fn.all fun d => d.ok K) = true := congrArg (fun z : AlM => z.1) c
  have c2 := (Bool.and_eq_true_iff.mp c1).2
  have e : fn.map (fun d => He.fnW K d.at_) = fn.map He.DefD.val := congrArg (fun z : AlM => z.2) c
  have e2 : (fn.map fun d => He.fnW K d.at_)[i]? = (fn.map He.DefD.val)[i]? := by rw [e]
  rw [List.getElem?_map, List.getElem?_map, h] at e2
  exact He.DefD.funD (Option.some.inj e2) (List.all_eq_true.mp c2 d (List.mem_of_getElem? h))
end
/-- the end of a law, with exceptions in the world's air -/
theorem walk_ofM {l : PySem.W.OpenLaw} {n k : Nat} {q : Program} {loose : List Str} {XP : (Str → Option Value) → Heap → Prop} {YP : World → Heap → Prop} {d : DefRec} {CX : World → CXT} {x : Str}
    (hn : l.most = some n) (hn2 : n ≤ sizeLine) (hdf : d.params.defaults = []) (hr : Room k callerA)
    (F : ∀ (w : World) (mg : Str → Option Value) (fa : Addr) (h : Heap), YP w h → h.Ns mainGlobals mg → mg d.name = some (.ref fa) →
      ∃ (K : PySem.W.Frag) (fd : FuncData) (sp : Sp), K.In h ∧ (∀ (s : Shared) (u : Value), BindsTo s fd ⟨[u], []⟩ [(x, u)]) ∧
        (∀ (H : Hp) (a : Addr) (ns : List Int), ns.length ≤ n → Only H → SqL K H a (ns.map V.int) → sp [.ref a] H (fun v _ => v = .bl true) fun _ _ _ => False) ∧
        ∀ base : Heap, K.In base → base.Ns mainGlobals mg → FnOk l.prog w K mg base (CX w) k fa fd [x] sp)
    (hCX : ∀ (w : World) (H : Hp) (s : Shared) (e : Value) (s' : Shared), CX w [] H s (fun _ _ _ => False) e s' → False) :
    PySem.W.WalkO q loose XP YP l.row.toRowW d [] (fun f vs => PySem.call f vs) :=
  Att.attach_call hn hdf fun w s₀ s₁ mg mb fa o pm cd doc a vs ns G Y ho hd hcd hmg hobj hints hlen hg => by
    obtain ⟨K, fd, sp, KX, hb, hsp, hF⟩ := F w mg fa _ Y G.T.g hmg
    exact law_call KX G.T.g G.T.b G.T.builtins G.T.nolimit hg hobj hints (Nat.le_trans hlen hn2) hr hF hb (fun H hO hS => hsp H a ns hlen hO hS) fun H e s' => hCX w H s₁ e s'
end Mi
end

section
set_option maxRecDepth 100000
set_option autoImplicit false
/-! enumerate over a tuple -/
namespace Mi
open PySem PySem.Spec PyProof.Rows L2
def iEnumA (a : EA) : EI := fun env st => (a env st).bind fun vs s => match vs with
  | [.d (.list xs)] => .ok (enumD 0 xs) s
  | [.d (.tuple xs)] => .ok (enumD 0 xs) s
  | _ => .bad
section
variable {cl : Nat → Addr} {X : Cx} {W : WX} {pos p tpos : Pos} {t a b : Expr} {ea eb : EE}
end
/-! step equations -/
def R.enumI (r : R (List Val)) : R (List D) := r.bind fun vs s => match vs with
  | [.d (.list xs)] => .ok (enumD 0 xs) s
  | [.d (.tuple xs)] => .ok (enumD 0 xs) s
  | _ => .bad
@[simp] theorem iEnumA_eq (a : EA) (env : Ev) (st : Sto) : iEnumA a env st = (a env st).enumI := rfl
end Mi
end

section
set_option maxRecDepth 100000
set_option autoImplicit false
/-! xs[i] = v, x += n, xs.index(v) -/
namespace Mi
open PySem PySem.Spec L2
section
variable {cl : Nat → Addr} {X : Cx} {W : WX} {pos pos' p apos q : Pos} {t a b o i value : Expr} {ea eb eo ei ev : EE}
def sLPut (eo ei ev : EE) : ES := fun env st => (ev env st).bindS env fun v s1 => (eo env s1).bindS env fun x s2 => (ei env s2).bindS env fun y s3 => match x, y, toD v s3 with
  | .r j, .d (.int k), some (d, s4) => (match s4[j]? with
    | some (.lst xs) => (match ixN xs.length k with
      | some n => .ok (.nx env) (s4.set j (.lst (xs.set n d)))
      | none => .bad)
    | _ => .bad)
  | _, _, _ => .bad
def sAug (j : Nat) (ea : EE) : ES := fun env st => match env[j]? with
  | some (some (.d (.int k))) => (ea env st).bindS env fun v s => (match v with
    | .d (.int n) => .ok (.nx (env.set j (some (.d (.int (k + n)))))) s
    | _ => .bad)
  | _ => .bad
def eIndex (eo ea : EE) : EE := fun env st => (eo env st).bind fun v s1 => match lsOf v s1 with
  | some _ => (ea env s1).bind fun u s2 => (match lsOf v s2, datOf u s2 with
    | some xs, some d => if fitsIn xs d = true ∧ small xs.length = true then (match xs.findIdx? (fun y => PyData.eqv y d) with
      | some j => .ok (.d (.int (j : Nat))) s2
      | none => .bad) else .bad
    | _, _ => .bad)
  | none => .bad
def rIdx (X : Cx) (cl : Nat → Addr) : V → List V → Hp → VK → Prop := fun x vs H Q => ∃ G m st av bv y xs d j, vs = [y] ∧ Rl (rc X cl) G m H st ∧ RepV (rc X cl) G m x av ∧ RepV (rc X cl) G m y bv ∧ lsOf av st = some xs ∧ datOf bv st = some d ∧ fitsIn xs d = true ∧ small xs.length = true ∧ xs.findIdx? (fun y => PyData.eqv y d) = some j ∧ Q (.int (j : Nat)) H
theorem mt_idx (hu : X.A.units + 200 < cLine) : MtM X "list.index" (rIdx X cl) := by
  intro pins s σ H x vs v us Q I rx rv h
  obtain ⟨G, m, st, av, bv, y, xs, d, j, rfl, rl, ra, rb, e1, e2, hf, hs, ej, hq⟩ := h
  obtain ⟨u, rfl, ru⟩ := rv.one
  obtain ⟨f1, f2, f3⟩ := fitsIn_is hf
  obtain ⟨bs, r1⟩ := Dp.reads I d y u (dat_of rl rb e2 f2) ru
  obtain ⟨l, ws, rfl, k, rw'⟩ := ls_of rl ra e1
  obtain ⟨as, r2⟩ := Dp.reads I (.list xs) _ v (.lst (SqL.of k) (RepAll.dp rl.sub f1 rw')) rx
  cases rx
  cases r2 with
  | @list _ ob vals n _ as h1 h2 h3 h4 =>
    obtain ⟨cls, dd, data, sl⟩ := ob
    simp only at h2 h3
    subst h2 h3
    have mp := SeqAt.readsAll_map_plain xs _ _ f1 h4
    have hlen : vals.size = xs.length := by rw [← mp]; simp
    obtain ⟨hj, hit, hno⟩ := List.findIdx?_eq_some_iff_getElem.mp ej
    have hjv : j < vals.size := by omega
    have rd : ∀ (n : Nat) (hn : n < vals.size) (hn2 : n < xs.length), SeqAt.readOf s.heap vals[n] = xs[n] := fun n hn hn2 => by
      have : (vals.toList.map (SeqAt.readOf s.heap))[n]? = xs[n]? := by rw [mp]
      rw [List.getElem?_map, List.getElem?_eq_getElem (by simpa using hn), List.getElem?_eq_getElem hn2] at this
      simpa using this
    have sm : xs.length ≤ 1000000 := by simpa [small] using hs
    refine call_meets F.slot_list_index ⟨_, h1, rfl⟩ F.entry_list_index (F.args_list_index_2 _ _)
      (SeqAt.list_indexAt l vals n dd sl u (fun y => PyData.eqv (SeqAt.readOf s.heap y) d) j hjv (by omega) (by rw [rd j hjv hj]; exact hit) (fun n hn hlt => by rw [rd n hn (by omega)]; simpa using hno n hlt)) ⟨h1, SeqAt.items_plain h4 r1 f1 f2 (by omega), ?_⟩
    exact ⟨.int _, H, I.tok _, ⟨_, rfl⟩, hq⟩
theorem se_index (hu : X.A.units + 200 < cLine) (ho : SE cl X W o ea) (ha : SE cl X W a eb) (hbase : attributeBase o "index" X.env (eval o X.env) = eval o X.env := by rfl)
    (hfew : ((backTo pos (starEach [a] X.env)).all (fun x => !x.1) && (backToKw pos (keywordEach [] X.env)).all (fun x => x.1.isSome) && decide ([a].length + ([] : List Keyword).length + (if ([] : List Keyword).isEmpty then 0 else 1) < 30)) = true := by rfl)
    (hline : (apos.endLine == pos.line) = true := by rfl) (hs : starEach [a] X.env = (false, eval a X.env) :: starEach [] X.env := by rfl) (hplain : (backTo pos (starEach [] X.env)).any (·.1) = false := by rfl) :
    SE cl X W (.Call (.Attribute o "index" apos) [a] [] pos) (eIndex ea eb) :=
  (pe_bm PySem.F.plainAttrs_list PySem.F.slot_list_index PySem.F.type_list_index (mt_idx (cl := cl) hu) ho (pa_cons ha pa_nil hs) hbase hfew hline hs hplain).impM fun σ H Q h => by
  obtain ⟨G, m, env, st, rl, en, p⟩ := h
  refine ⟨G, m, env, st, rl, en, Post.bindE p fun v s1 x H1 G1 m1 _ e1 rl1 r1 p1 => ?_⟩
  split at p1
  · rename_i ys ey
    obtain ⟨b', us, rfl, hb, rb⟩ := ls_of rl1 r1 ey
    refine ⟨.inl ⟨rfl, us, SqL.of hb⟩, G1, m1, env, s1, rl1, en.ext e1, Post.bindE p1 fun u s2 y H2 G2 m2 _ e2 rl2 r2 p2 => ?_⟩
    split at p2
    · rename_i xs d ex ed
      split at p2
      · rename_i hc
        split at p2
        · rename_i j ej
          exact ⟨G2, m2, s2, v, u, y, xs, d, j, rfl, rl2, r1.ext e2, r2, ex, ed, hc.1, hc.2, ej, p2 _ H2 G2 m2 (Ext.refl _ _ _) rl2 (.d (.int _))⟩
        · exact p2.elim
      · exact p2.elim
    · exact p2.elim
  · exact p1.elim
end
/-! step equations -/
def lputF (v x y : Val) (env : Ev) (s3 : Sto) : R Fl := match x, y, toD v s3 with
  | .r j, .d (.int k), some (d, s4) => (match s4[j]? with
    | some (.lst xs) => (match ixN xs.length k with
      | some n => .ok (.nx env) (s4.set j (.lst (xs.set n d)))
      | none => .bad)
    | _ => .bad)
  | _, _, _ => .bad
def R.lput3 (r : R Val) (v x : Val) (env : Ev) : R Fl := r.bindS env fun y s3 => lputF v x y env s3
def R.lput2 (r : R Val) (v : Val) (ei : EE) (env : Ev) : R Fl := r.bindS env fun x s2 => (ei env s2).lput3 v x env
def R.lput1 (r : R Val) (eo ei : EE) (env : Ev) : R Fl := r.bindS env fun v s1 => (eo env s1).lput2 v ei env
@[simp] theorem lput3_ok (y : Val) (s : Sto) (v x : Val) (env : Ev) : (R.ok y s).lput3 v x env = lputF v x y env s := rfl
@[simp] theorem lput2_ok (x : Val) (s : Sto) (v : Val) (ei : EE) (env : Ev) : (R.ok x s).lput2 v ei env = (ei env s).lput3 v x env := rfl
@[simp] theorem lput1_ok (v : Val) (s : Sto) (eo ei : EE) (env : Ev) : (R.ok v s).lput1 eo ei env = (eo env s).lput2 v ei env := rfl
@[simp] theorem sLPut_eq (eo ei ev : EE) (env : Ev) (st : Sto) : sLPut eo ei ev env st = (ev env st).lput1 eo ei env := rfl
def R.augS (r : R Val) (env : Ev) (j : Nat) (k : Int) : R Fl := r.bindS env fun v s => match v with
    | .d (.int n) => .ok (.nx (env.set j (some (.d (.int (k + n)))))) s
    | _ => .bad
@[simp] theorem augS_ok (n : Int) (s : Sto) (env : Ev) (j : Nat) (k : Int) : (R.ok (.d (.int n)) s).augS env j k = .ok (.nx (env.set j (some (.d (.int (k + n)))))) s := rfl
def augG (x : Option (Option Val)) (ea : EE) (env : Ev) (st : Sto) (j : Nat) : R Fl := match x with
  | some (some (.d (.int k))) => (ea env st).augS env j k
  | _ => .bad
@[simp] theorem augG_ok (k : Int) (ea : EE) (env : Ev) (st : Sto) (j : Nat) : augG (some (some (.d (.int k)))) ea env st j = (ea env st).augS env j k := rfl
@[simp] theorem sAug_eq (j : Nat) (ea : EE) (env : Ev) (st : Sto) : sAug j ea env st = augG env[j]? ea env st j := by
  unfold sAug augG
  split <;> rfl
def R.idx2 (r : R Val) (v : Val) : R Val := r.bind fun u s2 => match lsOf v s2, datOf u s2 with
    | some xs, some d => if fitsIn xs d = true ∧ small xs.length = true then (match xs.findIdx? (fun y => PyData.eqv y d) with
      | some j => .ok (.d (.int (j : Nat))) s2
      | none => .bad) else .bad
    | _, _ => .bad
def R.idx1 (r : R Val) (ea : EE) (env : Ev) : R Val := r.bind fun v s1 => match lsOf v s1 with
  | some _ => (ea env s1).idx2 v
  | none => .bad
@[simp] theorem idx1_list (xs : List D) (s : Sto) (ea : EE) (env : Ev) : (R.ok (.d (.list xs)) s).idx1 ea env = (ea env s).idx2 (.d (.list xs)) := rfl
theorem idx2_ok {xs : List D} {d : D} {j : Nat} {s : Sto} (hf : fitsIn xs d = true) (hs : small xs.length = true) (hj : xs.findIdx? (fun y => PyData.eqv y d) = some j) : (R.ok (.d d) s).idx2 (.d (.list xs)) = .ok (.d (.int (j : Nat))) s := by
  simp only [R.idx2, R.bind_ok, lsOf, datOf, hf, hs, and_self, if_true, hj]
@[simp] theorem eIndex_eq (eo ea : EE) (env : Ev) (st : Sto) : eIndex eo ea env st = (eo env st).idx1 ea env := rfl
end Mi
end

section
set_option maxRecDepth 100000
set_option autoImplicit false
/-! a list that is not written any more is read as data from here on -/
namespace Mi
open PySem PySem.Spec L2
def frzV (i : Nat) (env : Ev) (st : Sto) : Option (Ev × Sto) := match env[i]? with
  | some (some (.r j)) => (match st[j]? with
    | some (.lst xs) => some (env.set i (some (.d (.list xs))), st.set j .gone)
    | _ => none)
  | _ => none
def sFrz (i : Nat) (eb : ES) : ES := fun env st => match frzV i env st with
  | some (e, s) => eb e s
  | none => .bad
/-! step -/
def frzG (i : Nat) (x : Option (Option Val)) (eb : ES) (env : Ev) (st : Sto) : R Fl := match x with
  | some (some (.r j)) => (match st[j]? with
    | some (.lst xs) => eb (env.set i (some (.d (.list xs)))) (st.set j .gone)
    | _ => .bad)
  | _ => .bad
@[simp] theorem frzG_r (i j : Nat) (eb : ES) (env : Ev) (st : Sto) : frzG i (some (some (.r j))) eb env st = match st[j]? with
    | some (.lst xs) => eb (env.set i (some (.d (.list xs)))) (st.set j .gone)
    | _ => .bad := rfl
@[simp] theorem sFrz_eq (i : Nat) (eb : ES) (env : Ev) (st : Sto) : sFrz i eb env st = frzG i env[i]? eb env st := by
  unfold sFrz frzV frzG
  split <;> rename_i h
  · split at h
    · split at h
      · cases h; rename_i q _ _ r; simp [q, r]
      · cases h
    · cases h
  · split
    · rename_i q
      simp only [q] at h
      split
      · rename_i r; simp [r] at h
      · rfl
    · rfl
end Mi
end

section
set_option maxRecDepth 100000
set_option autoImplicit false
/-! {k: v for .. in .. if ..}, k a tuple -/
namespace Mi
open PySem PySem.Spec PyProof.Rows L2
section
variable {cl : Nat → Addr} {X : Cx}
end
def compN (tg : Tg) (tt : ET) (ek ee : EE) (env : Ev) : List D → List (D × D) → Sto → R (List (D × D))
  | [], acc, st => .ok acc st
  | x :: xs, acc, st => match tg.put x env with
    | none => .bad
    | some e1 => (noX (tt e1 st)).bind fun b s1 => match b with
      | false => compN tg tt ek ee env xs acc s1
      | true => (noX (ek e1 s1)).bind fun k s2 => (noX (ee e1 s2)).bind fun v s3 => match k, toD v s3 with
        | .d (.tuple ks), some (d, s4) => (match nk (.tuple ks) with
          | some k => if k.depth ≤ 8 then compN tg tt ek ee env xs (nPut acc k (.tuple ks) d) s4 else .bad
          | none => .bad)
        | _, _ => .bad
section
variable {cl : Nat → Addr} {X : Cx} {W : WX} {pos : Pos} {t a c kx vx : Expr} {ifs : List Expr} {ei : EI} {tg : Tg} {tt : ET} {ek ee : EE}
/-- a dict that may be changed; one that is data -/
def eDcNR (vs : List Nat) (tg : Tg) (ei : EI) (tt : ET) (ek ee : EE) : EE := fun env st => (ei env st).bind fun xs s => if small xs.length = true then (compN tg tt ek ee (wipeE env vs) xs [] s).bind fun ds s2 => .ok (.r s2.length) (s2 ++ [.dN ds]) else .bad
def eDcNF (vs : List Nat) (tg : Tg) (ei : EI) (tt : ET) (ek ee : EE) : EE := fun env st => (ei env st).bind fun xs s => if small xs.length = true then (compN tg tt ek ee (wipeE env vs) xs [] s).bind fun ds s2 => .ok (.d (.dict ((.none, .none) :: ds))) s2 else .bad
variable {scope : Scope} {own : List (Str × Nat)}
end
/-! steps -/
def R.dcdN (r : R (List (D × D))) : R Val := r.bind fun ds s2 => .ok (.d (.dict ((.none, .none) :: ds))) s2
def R.dcrN (r : R (List (D × D))) : R Val := r.bind fun ds s2 => .ok (.r s2.length) (s2 ++ [.dN ds])
@[simp] theorem dcdN_ok (ds : List (D × D)) (s : Sto) : (R.ok ds s).dcdN = .ok (.d (.dict ((.none, .none) :: ds))) s := rfl
@[simp] theorem dcrN_ok (ds : List (D × D)) (s : Sto) : (R.ok ds s).dcrN = .ok (.r s.length) (s ++ [.dN ds]) := rfl
def R.dcNFE (r : R (List D)) (vs : List Nat) (tg : Tg) (tt : ET) (ek ee : EE) (env : Ev) : R Val := r.bind fun xs s => if small xs.length = true then (compN tg tt ek ee (wipeE env vs) xs [] s).dcdN else .bad
def R.dcNRE (r : R (List D)) (vs : List Nat) (tg : Tg) (tt : ET) (ek ee : EE) (env : Ev) : R Val := r.bind fun xs s => if small xs.length = true then (compN tg tt ek ee (wipeE env vs) xs [] s).dcrN else .bad
@[simp] theorem dcNFE_ok (xs : List D) (s : Sto) (vs : List Nat) (tg : Tg) (tt : ET) (ek ee : EE) (env : Ev) : (R.ok xs s).dcNFE vs tg tt ek ee env = if small xs.length = true then (compN tg tt ek ee (wipeE env vs) xs [] s).dcdN else .bad := rfl
@[simp] theorem dcNRE_ok (xs : List D) (s : Sto) (vs : List Nat) (tg : Tg) (tt : ET) (ek ee : EE) (env : Ev) : (R.ok xs s).dcNRE vs tg tt ek ee env = if small xs.length = true then (compN tg tt ek ee (wipeE env vs) xs [] s).dcrN else .bad := rfl
@[simp] theorem eDcNF_eq (vs : List Nat) (tg : Tg) (ei : EI) (tt : ET) (ek ee : EE) (env : Ev) (st : Sto) : eDcNF vs tg ei tt ek ee env st = (ei env st).dcNFE vs tg tt ek ee env := rfl
@[simp] theorem eDcNR_eq (vs : List Nat) (tg : Tg) (ei : EI) (tt : ET) (ek ee : EE) (env : Ev) (st : Sto) : eDcNR vs tg ei tt ek ee env st = (ei env st).dcNRE vs tg tt ek ee env := rfl
end Mi
end

section
set_option maxRecDepth 100000
set_option autoImplicit false
/-! name = [.. for .. for ..] -/
namespace Mi
open PySem PySem.Spec L2
section
variable {cl : Nat → Addr} {X : Cx} {W : WX} {pos : Pos} {t a c elt t1 a1 : Expr} {ifs ifs1 : List Expr} {ei ei1 : EI} {tg tg1 : Tg} {tt tt1 : ET} {ee : EE} {scope : Scope} {own : List (Str × Nat)} {vs1 : List Nat}
end
end Mi
end

section
set_option maxRecDepth 100000
set_option autoImplicit false
namespace Mi
open PySem PySem.Spec L2

/-! ### calls of defs, by a table -/
def eCl (n : Nat) (f : FN) (a : EA) : EE := fun env st => (a env st).bind fun vs s => if vs.length = n then f vs s else .bad
structure FokP (cl : Nat → Addr) (P : Program) (w : World) (K : PySem.W.Frag) (mg : Str → Option Value) (base : Heap) (k : Nat) (x : Str) (n : Nat) (f : FN) : Prop where
  ok : ∃ (fa : Addr) (fd : FuncData) (ps : List Str), ps.length = n ∧ FnOk P w K mg base (L2N.CX P w) k fa fd ps (spF ⟨K, w, cl⟩ n f) ∧ mg x = some (.ref fa) ∧ PySem.W.keepIn K (.ref fa) = true ∧ Binds K fd ps []
section
variable {cl : Nat → Addr} {X : Cx} {W : WX} {pos p : Pos} {a b : Expr} {es : List Expr} {er : EA} {ea : EE} {x : Str} {k n : Nat} {f : FN}
theorem se_cl (F : FokP cl X.prog X.w X.K X.mg X.base k x n f) (hr : Room k X.A) (tk : L2N.Takes X W) (hg : Gl X x) (ha : SA cl X W (a :: es) er) (hdb : (x == ("__debug__" : Str)) = false := by decide)
    (he : starEach (a :: es) X.env = (false, eval a X.env) :: starEach es X.env := by rfl) (hpl : (backTo pos (starEach es X.env)).any (·.1) = false := by rfl) : SE cl X W (.Call (.Name x p) (a :: es) [] pos) (eCl n f er) := by
  obtain ⟨fa, fd, ps, hp, F, hm, hk, hb⟩ := F.ok
  refine (pe_callS F hr hg hm hk hb (fun σ => L2N.passAt tk σ) ha hdb he hpl).impM fun σ H Q h => ?_
  obtain ⟨G, m, env, st, rl, en, p⟩ := h
  refine ⟨G, m, env, st, rl, en, Post.bindE p fun v s1 x H1 G1 m1 e0 e1 rl1 r1 p1 => ?_⟩
  split at p1
  · rename_i hl
    exact ⟨G1, m1, s1, v, rl1, r1, hl, p1⟩
  · exact p1.elim
theorem takes0N : L2N.Takes X (fun _ _ _ _ => False) := fun _ _ ⟨_, _, _, _, _, _, _, _, _, _, _, _, _, _, _, _, w⟩ => w.elim
/-- nothing is asked of what never answers -/
theorem fok_bad {P : Program} {w : World} {K : PySem.W.Frag} {mg : Str → Option Value} {base : Heap} {fa : Addr} {fd : FuncData} {ps : List Str} (hp : ps.length = n) (hm : mg x = some (.ref fa)) (hk : PySem.W.keepIn K (.ref fa) = true) (hb : Binds K fd ps []) {k0 : Nat} : FokP cl P w K mg base k0 x n (fun _ _ => .bad) := by
  refine ⟨fa, fd, ps, hp, ?_, hm, hk, hb⟩
  have no : ∀ vs H Q E, ¬ spF ⟨K, w, cl⟩ n (fun _ _ => .bad) vs H Q E := fun vs H Q E ⟨G, m, st, as, rl, ra, hl, p⟩ => p
  exact ⟨fun vs H Q E h => absurd h (no vs H Q E), fun A outer s H args us vs Q E _ _ _ _ h => absurd h (no vs H Q E)⟩
/-- a def by its body -/
theorem fok_of {P : Program} {w : World} {K : PySem.W.Frag} {mg : Str → Option Value} {base : Heap} {k : Nat} {x qual : Str} {params : Arguments} {body : List Stmt} {scope : Scope} {dvs : List V} {kws : List (Str × V)} {fa : Addr} {fd : FuncData} {N ps : List Str} {ev : ES} {cl : Nat → Addr} {y : Str} {f : FN}
    (F : FunD K x qual params body scope dvs kws fa fd) (S : FnScope N ps scope) (hle : ps.length ≤ N.length) (hm : mg y = some (.ref fa)) (hb : Binds K fd ps []) (hf : f = runF N.length ps.length ev) (hn : n = ps.length)
    (h : ∀ (cdv : Value) (A : Around) (outer : List Env) (s : Shared) (H : Hp) (E : XK), Room k (cxOf (L2N.CX P w) P w K mg base N qual scope fa cdv A outer s H E).A → L2N.Takes (cxOf (L2N.CX P w) P w K mg base N qual scope fa cdv A outer s H E) (fun cls d _ H' => E cls d H') →
      PassesOwn (model P w) (cxOf (L2N.CX P w) P w K mg base N qual scope fa cdv A outer s H E).A (cxOf (L2N.CX P w) P w K mg base N qual scope fa cdv A outer s H E).env (cxOf (L2N.CX P w) P w K mg base N qual scope fa cdv A outer s H E).xe →
      SSs cl (cxOf (L2N.CX P w) P w K mg base N qual scope fa cdv A outer s H E) (fun cls d _ H' => E cls d H') body ev) : FokP cl P w K mg base (k + 1) y n f := by
  subst hf hn
  refine ⟨fa, fd, ps, rfl, ?_, hm, F.kp, hb⟩
  refine F.ok S (fun vs H Q E h => ?_) (fun cdv A outer s H vs Q E hr hh => ?_)
  · obtain ⟨G, m, st, as, rl, ra, hl, p⟩ := h
    rw [ra.length, hl]
  · exact ⟨_, h cdv A outer s H E hr (L2N.takes_of rfl rfl rfl rfl) (passes_of rfl), fn_sound_aux hle hh⟩
end
end Mi
namespace Mi
open PySem PySem.Spec L2
/-! ### constants of the module -/
def GC (C : RC) (mg : Str → Option Value) (x : Str) (d : D) : Prop := ∃ u v, mg x = some u ∧ RelV v u ∧ ∀ G, Rep C G v d
mutual
def repK (K : PySem.W.Frag) : Nat → Value → D → Bool
  | _, .none, .none => true
  | _, .bool b, .bool c => b == c
  | _, .int i _, .int j => decide (i = j)
  | _, .str x _, .str y => decide (x = y)
  | n + 1, .ref a, .tuple ds => (match K.lookup a with
    | some ⟨.type c, _, .seq its _, _⟩ => decide (c = "tuple") && (decide (its.size ≤ sizeLine) && repKs K n its.toList ds)
    | _ => false)
  | _, _, _ => false
def repKs (K : PySem.W.Frag) : Nat → List Value → List D → Bool
  | _, [], [] => true
  | n, v :: vs, d :: ds => repK K n v d && repKs K n vs ds
  | _, _, _ => false
end
mutual
theorem repK_ok {K : PySem.W.Frag} {w : World} {cl : Nat → Addr} : ∀ (n : Nat) (u : Value) (d : D), repK K n u d = true → ∃ v, RelV v u ∧ ∀ G, Rep ⟨K, w, cl⟩ G v d
  | n, u, .none, h => by
    cases u <;> first | exact ⟨.non, rfl, fun _ => .non⟩ | (exfalso; cases n <;> simp [repK] at h)
  | n, u, .bool c, h => by
    cases u with
    | bool b =>
      have e : (b == c) = true := by cases n <;> simpa [repK] using h
      have e : b = c := eq_of_beq e
      subst e; exact ⟨.bl b, rfl, fun _ => .bl b⟩
    | _ => exfalso; cases n <;> simp [repK] at h
  | n, u, .int c, h => by
    cases u with
    | int b t =>
      have e : b = c := by cases n <;> simpa [repK] using h
      subst e; exact ⟨.int b, ⟨t, rfl⟩, fun _ => .int b⟩
    | _ => exfalso; cases n <;> simp [repK] at h
  | n, u, .str c, h => by
    cases u with
    | str b t =>
      have e : b = c := by cases n <;> simpa [repK] using h
      subst e; exact ⟨.str b, ⟨t, rfl⟩, fun _ => .str b⟩
    | _ => exfalso; cases n <;> simp [repK] at h
  | n, u, .list _, h => by exfalso; cases u <;> cases n <;> simp [repK] at h
  | n, u, .dict _, h => by exfalso; cases u <;> cases n <;> simp [repK] at h
  | 0, u, .tuple ds, h => by exfalso; cases u <;> simp [repK] at h
  | n + 1, u, .tuple ds, h => by
    cases u with
    | ref a =>
      simp only [repK] at h
      split at h
      · rename_i c od its k sl e
        simp only [Bool.and_eq_true, decide_eq_true_eq] at h
        obtain ⟨h1, h2, h3⟩ := h
        obtain ⟨vs, r1, r2⟩ := repKs_ok (w := w) (cl := cl) n its.toList ds h3
        exact ⟨.ref a, rfl, fun G => .tup (.inr ⟨_, its, k, e, by rw [h1], rfl, h2, r1⟩) (r2 G)⟩
      · cases h
    | _ => exfalso; simp [repK] at h
theorem repKs_ok {K : PySem.W.Frag} {w : World} {cl : Nat → Addr} : ∀ (n : Nat) (us : List Value) (ds : List D), repKs K n us ds = true → ∃ vs, Vals vs us ∧ ∀ G, RepAll ⟨K, w, cl⟩ G vs ds
  | n, [], [], h => ⟨[], .nil, fun _ => .nil⟩
  | n, _ :: _, [], h => by simp [repKs] at h
  | n, [], _ :: _, h => by simp [repKs] at h
  | n, u :: us, d :: ds, h => by
    simp only [repKs, Bool.and_eq_true] at h
    obtain ⟨v, r1, r2⟩ := repK_ok (w := w) (cl := cl) n u d h.1
    obtain ⟨vs, r3, r4⟩ := repKs_ok (w := w) (cl := cl) n us ds h.2
    exact ⟨v :: vs, .cons r1 r3, fun G => .cons (r2 G) (r4 G)⟩
end
def gcB (K : PySem.W.Frag) (x : Str) (d : D) : Bool := match PySem.W.nsIn K mainGlobals x with
  | some (some u) => repK K 20 u d
  | _ => false
theorem gcB_ok {K : PySem.W.Frag} {w : World} {cl : Nat → Addr} {h : Heap} {mg : Str → Option Value} (X : K.In h) (G : h.Ns mainGlobals mg) {x : Str} {d : D} (c : gcB K x d = true) : GC ⟨K, w, cl⟩ mg x d := by
  unfold gcB at c
  split at c
  · rename_i u e
    obtain ⟨v, r1, r2⟩ := repK_ok (w := w) (cl := cl) 20 u d c
    exact ⟨u, v, PySem.W.mg_of X G e, r1, r2⟩
  · cases c
section
variable {cl : Nat → Addr} {X : Cx} {W : WX} {pos : Pos} {a : Expr} {ea : EE}
theorem se_gc {x : Str} {d : D} (h : GC (rc X cl) X.mg x d) (hg : Gl X x) (hd : (x == ("__debug__" : Str)) = false := by decide) : SE cl X W (.Name x pos) (eC d) := by
  obtain ⟨u, v, hm, rv, rd⟩ := h
  exact se_glob rd hg hm rv hd
def eNeg (a : EE) : EE := fun env st => (a env st).bind fun v s => match v with
  | .d (.int i) => .ok (.d (.int (-i))) s
  | _ => .bad
theorem se_neg (ha : SE cl X W a ea) : SE cl X W (.UnaryOp .USub a pos) (eNeg ea) := (pe_un un_neg ha).impM fun σ H Q h => by
  obtain ⟨G, m, env, st, rl, en, p⟩ := h
  refine ⟨G, m, env, st, rl, en, Post.bindE p fun v s1 x H1 G1 m1 _ e1 rl1 r1 p1 => ?_⟩
  split at p1
  · cases r1 with
    | d r => cases r; exact ⟨_, rfl, p1 _ H1 G1 m1 (Ext.refl _ _ _) rl1 (.d (.int _))⟩
  · exact p1.elim
end
/-! ### the built-ins' names -/
def bltns : List Str := ["len", "range", "isinstance", "all", "any", "tuple", "list", "int", "bool", "str", "zip", "enumerate", "sorted", "set", "max", "min", "sum", "dict", "ValueError", "Exception"]
structure Bl (mg : Str → Option Value) : Prop where
  all : ∀ x ∈ bltns, mg x = none
def blB (K : PySem.W.Frag) : Bool := bltns.all fun x => (He.Fa.free x).ok K
theorem blB_ok {K : PySem.W.Frag} {h : Heap} {mg : Str → Option Value} (X : K.In h) (G : h.Ns mainGlobals mg) (c : blB K = true) : Bl mg :=
  ⟨fun x hx => He.free_ok X G (List.all_eq_true.mp c x hx)⟩
theorem Bl.g {mg : Str → Option Value} (b : Bl mg) (x : Str) (h : x ∈ bltns := by decide +kernel) : mg x = none := b.all x h
theorem Bl.len_ {mg : Str → Option Value} (b : Bl mg) : mg "len" = none := b.g "len"
theorem Bl.range_ {mg : Str → Option Value} (b : Bl mg) : mg "range" = none := b.g "range"
theorem Bl.isinstance_ {mg : Str → Option Value} (b : Bl mg) : mg "isinstance" = none := b.g "isinstance"
theorem Bl.all_ {mg : Str → Option Value} (b : Bl mg) : mg "all" = none := b.g "all"
theorem Bl.tuple_ {mg : Str → Option Value} (b : Bl mg) : mg "tuple" = none := b.g "tuple"
theorem Bl.list_ {mg : Str → Option Value} (b : Bl mg) : mg "list" = none := b.g "list"
theorem Bl.int_ {mg : Str → Option Value} (b : Bl mg) : mg "int" = none := b.g "int"
theorem Bl.bool_ {mg : Str → Option Value} (b : Bl mg) : mg "bool" = none := b.g "bool"
theorem Bl.str_ {mg : Str → Option Value} (b : Bl mg) : mg "str" = none := b.g "str"
theorem Bl.zip_ {mg : Str → Option Value} (b : Bl mg) : mg "zip" = none := b.g "zip"
theorem Bl.sorted_ {mg : Str → Option Value} (b : Bl mg) : mg "sorted" = none := b.g "sorted"
theorem Bl.set_ {mg : Str → Option Value} (b : Bl mg) : mg "set" = none := b.g "set"
theorem Bl.min_ {mg : Str → Option Value} (b : Bl mg) : mg "min" = none := b.g "min"
def globB (K : PySem.W.Frag) (x : Str) : Bool := (He.Fa.glo x).ok K
theorem bb_len : bootBuiltins "len" = some (.builtin "len") := by decide +kernel
theorem bb_all : bootBuiltins "all" = some (.builtin "all") := by decide +kernel
theorem bb_min : bootBuiltins "min" = some (.builtin "min") := by decide +kernel
theorem bb_tuple : bootBuiltins "tuple" = some (.type "tuple") := by decide +kernel
theorem bb_list : bootBuiltins "list" = some (.type "list") := by decide +kernel
theorem bb_int : bootBuiltins "int" = some (.type "int") := by decide +kernel
theorem bb_bool : bootBuiltins "bool" = some (.type "bool") := by decide +kernel
theorem bb_str : bootBuiltins "str" = some (.type "str") := by decide +kernel
theorem units_of {A : Around} {k : Nat} (hr : Room k A) : A.units + 200 < cLine := by have := hr.un; omega
end Mi
end

section
set_option maxRecDepth 100000
set_option maxHeartbeats 2000000
set_option autoImplicit false
namespace Mi
open PySem PySem.Spec PyProof.Rows L2

/-! ### try: several clauses, some with a name -/
abbrev TH := Addr → Value → Option Addr → TS
/-- the name of the clause is unbound behind it -/
def offN (i : Nat) (D : Ends) : Ends := { nx := fun σ H => D.nx (σ.set i none) H, rt := D.rt, bk := fun σ H => D.bk (σ.set i none) H, ct := fun σ H => D.ct (σ.set i none) H }
def wCl (K : PySem.W.Frag) (i : Nat) (Wo : WX) (D : Ends) : List (Value × Bool × TH) → WX
  | [] => Wo
  | q :: l => fun cls d σ H => ∃ r, PySem.W.exmOne K cls q.1 = some r ∧ (r = true → ∀ a, H a = none → (q.2.1 = true → q.2.2 a cls d (offN i D) (σ.set i (some (.ref a))) H) ∧ (q.2.1 = false → q.2.2 a cls d D σ H)) ∧ (r = false → wCl K i Wo D l cls d σ H)
inductive Cls3 (X : Cx) (i : Nat) (n : Str) : List ExceptHandler → List (Value × Bool × TH) → Prop
  | nil : Cls3 X i n [] []
  | named {x : Str} {c : Value} {ts : TH} {b0 : Stmt} {su : List Stmt} {p p2 : Pos} {hds : List ExceptHandler} {l : List (Value × Bool × TH)} (hc : Names X x c)
      (hsu : ∀ (a : Addr) (oe : Obj) (cls : Value) (d : Option Addr) (pn : List (Addr × Obj)), L2N.Zn cls d oe → (∃ vs, oe.data = .fields vs) → PSs (X.suite a ((a, oe) :: pn)) (b0 :: su) (ts a cls d))
      (hi : X.N[i]? = some n) (hl : X.env.kindOf n = some .local) (r : Cls3 X i n hds l) : Cls3 X i n (.ExceptHandler (some (.Name x p)) (some n) (b0 :: su) p2 :: hds) ((c, true, ts) :: l)
  | bare {x : Str} {c : Value} {ts : TH} {b0 : Stmt} {su : List Stmt} {p p2 : Pos} {hds : List ExceptHandler} {l : List (Value × Bool × TH)} (hc : Names X x c)
      (hsu : ∀ (a : Addr) (oe : Obj) (cls : Value) (d : Option Addr) (pn : List (Addr × Obj)), L2N.Zn cls d oe → (∃ vs, oe.data = .fields vs) → PSs (X.suite a ((a, oe) :: pn)) (b0 :: su) (ts a cls d))
      (r : Cls3 X i n hds l) : Cls3 X i n (.ExceptHandler (some (.Name x p)) none (b0 :: su) p2 :: hds) ((c, false, ts) :: l)
section
variable {X : Cx} {i : Nat} {n : Str} {body : List Stmt} {h0 : ExceptHandler} {hds : List ExceptHandler} {l : List (Value × Bool × TH)} {pos : Pos} {tb : WX → TS} {Wo : WX}
theorem ps_tryC (hs : X.stack = X.env :: X.outer) (hf : X.env.frame = some X.env.locals) (hN : X.N.Nodup) (tk : L2N.Takes X Wo)
    (hb : ∀ (W : WX) (pn : List (Addr × Obj)) (xe : Value → Shared → Prop), L2N.Takes (X.tr pn xe) W → PassesOwn (model X.prog X.w) X.A X.env xe → PSs (X.tr pn xe) body (tb W))
    (hh : Cls3 X i n (h0 :: hds) l) : PS X (.Try body (h0 :: hds) [] [] pos) (fun D σ H => tb (wCl X.K i Wo D l) D σ H) := by
  constructor
  intro pins s σ H D I h
  have ok := I.ok
  have fr : X.A.frames = some (X.env :: X.outer) := ok.frames.trans (congrArg some hs)
  apply wpAny_Try_except
  have run := (hb (wCl X.K i Wo D l) (X.pn ++ pins) (fun e t1 => wpAny (model X.prog X.w) X.A (noteFrame e X.env) (fun _ t2 => wpAny (model X.prog X.w) X.A (setFlight e none) (fun _ t3 => wpAny (model X.prog X.w) X.A (handleBy e X.env (h0 :: hds)) (SP X pins D) X.xe t3) X.xe t2) X.xe t1) (fun u s' xx => ?take) PassesOwn.looking).run [] s σ H D (I.toTry _) h
  case take =>
    obtain ⟨a, B, sI, pins', τ, K1, cls, d, rfl, J', nb, up, sky, na, os, ag, w⟩ := xx
    have J : Inv X pins τ K1 sI := J'.ofTry ok
    rw [show (X.tr (X.pn ++ pins) _).stack = X.env :: X.outer from hs] at sky
    show wpAny (model X.prog X.w) X.A (noteFrame (.ref a) X.env) _ _ _
    apply L2N.Sky.land L2N.Zn.steady fr hf sky
    intro g3 fl3 up3
    have J3 : Inv X pins τ K1 { s' with heap := g3 } := J.landed nb fl3.1 (up.trans up3) os ag
    obtain ⟨o3, v3, e3, z3, d3⟩ := fl3.there
    have out : a ∉ frs (X.env :: X.outer) := fun hm => by
      obtain ⟨_, o', e', nn⟩ := fl3.2.2.1.mem hm
      rw [e3] at e'
      cases e'
      exact nn _ d3
    have nL : a ≠ X.env.locals := fun z => out (List.mem_filterMap.mpr ⟨X.env, List.mem_cons_self, by rw [hf, z]⟩)
    have nF : a ∉ X.fs := fun hm => by
      obtain ⟨e, he, q⟩ := List.mem_filterMap.mp hm
      exact out (List.mem_filterMap.mpr ⟨e, List.mem_cons_of_mem _ he, q⟩)
    have S3 := J3.suite e3 d3 na nL nF
    have LT : PySem.W.Looks (model X.prog X.w) g3 (typeOf (.ref a)) cls := fun A Q E s k q => wpAny_typeOf_ref (k _ _ e3) (by rw [z3.1]; exact q)
    have nam : ∀ {x : Str} {c : Value} {p : Pos} {Q : Value → Shared → Prop} {E : Value → Shared → Prop}, Names X x c → Q c { s' with heap := g3 } → wpAny (model X.prog X.w) (X.A.mark (some (.ref a))) (eval (.Name x p) X.env) Q E { s' with heap := g3 } := fun {x c p Q E} hc q => by
      obtain ⟨hg, hdb, hm | ⟨hm, hv, hn⟩⟩ := hc
      · exact ld_glob (X := X.suite a ((a, o3) :: (X.pn ++ pins))) S3 hg hm q hdb
      · exact ld_blt (X := X.suite a ((a, o3) :: (X.pn ++ pins))) S3 hg hm hv q hn hdb
    have go : ∀ {hd' : List ExceptHandler} {l' : List (Value × Bool × TH)}, Cls3 X i n hd' l' → wCl X.K i Wo D l' cls d τ K1 → wpAny (model X.prog X.w) X.A (handleBy (.ref a) X.env hd') (SP X pins D) X.xe { s' with heap := g3 } := by
      intro hd' l' hk
      induction hk with
      | nil =>
        intro w
        apply wpAny_handleBy_nil
        obtain ⟨k1, k2, k3, oe, vs, T, oT, tq, he, hz, hd, h1, hr⟩ := id fl3
        unfold PySem.passOn
        refine wpAny_bind (wpAny_field he hd h1 ?_)
        rw [if_neg (show ¬ ((Value.ref T == Value.none) = true) by simp)]
        have up5 : wpAny (model X.prog X.w) X.A (setFlight (.ref a) X.env.frame) (fun _ s4 => wpAny (model X.prog X.w) X.A (throw (.ref a) : Sem Flow) (SP X pins D) X.xe s4) X.xe { s' with heap := g3 } := by
          rw [hf]
          refine HandSPX.setFlight_upZ fl3 fun g4 hh4 up4 => wpAny_throw (tk _ _ ⟨a, B, sI, pins, τ, K1, cls, d, rfl, J, nb, (up.trans up3).trans up4, .inr (.inr ?_), na, os, ag, w⟩)
          rw [hs]; exact hh4
        first
          | exact wpAny_bind (wpAny_pure (wpAny_bind up5))
          | exact wpAny_bind up5
      | @named x c ts b0 su p p2 hd2 l2 hc hsu hi hl r ih =>
        intro w
        obtain ⟨b, hb1, hyes, hno⟩ := w
        refine wpAny_handleBy_cons (codeAny_handlers_test ?_) (by intro q; cases q)
        refine nam hc ((PySem.W.exm_one (M := model X.prog X.w) J3.kIn LT hb1).here ?_)
        cases b with
        | false => exact ih (hno rfl)
        | true =>
          refine codeAny_handlers_suite_as (HandSPX.lands_againZ fl3 fun g4 fl4 up4 => ?_)
          have J4 : Inv X pins τ K1 { s' with heap := g4 } := J.landed nb fl4.1 ((up.trans up3).trans up4) os ag
          obtain ⟨o4, v4, e4, z4, d4⟩ := fl4.there
          have S4 := J4.suite e4 d4 na nL nF
          refine store_ok (X := X.suite a ((a, o4) :: (X.pn ++ pins))) (v := .ref a) S4 hN hi (.inl hl) rfl (fun s5 S5 => ?_) (.inr hl)
          refine wpAny_mono ((hsu a o4 cls d (X.pn ++ pins) z4 ⟨_, d4⟩).run [] s5 _ K1 _ S5 ((hyes rfl a na).1 rfl)) (fun f s6 hsp => ?_) (fun _ _ z => z.elim)
          have last : ∀ {τ6 : L2.St} {K6 : Hp} {Q : Shared → Prop}, Inv (X.suite a ((a, o4) :: (X.pn ++ pins))) [] τ6 K6 s6 → (∀ s7, Inv X pins (τ6.set i none) K6 s7 → Q s7) →
              wpAny (model X.prog X.w) X.A (do bindName X.env n .none; unbindBehindTheSuite X.env n p2) (fun _ s7 => Q s7) X.xe s6 := fun {τ6 K6 Q} S6 hq => gone_ok (S6.unsuite ok) hN hi hl hq
          cases f with
          | next => obtain ⟨τ6, K6, S6, q6⟩ := hsp; exact last S6 fun s7 J7 => ⟨_, _, J7, q6⟩
          | brk => obtain ⟨τ6, K6, S6, q6⟩ := hsp; exact last S6 fun s7 J7 => ⟨_, _, J7, q6⟩
          | cont => obtain ⟨τ6, K6, S6, q6⟩ := hsp; exact last S6 fun s7 J7 => ⟨_, _, J7, q6⟩
          | ret u => obtain ⟨v6, τ6, K6, S6, r6, q6⟩ := hsp; exact last S6 fun s7 J7 => ⟨_, _, _, J7, r6, q6⟩
      | @bare x c ts b0 su p p2 hd2 l2 hc hsu r ih =>
        intro w
        obtain ⟨b, hb1, hyes, hno⟩ := w
        refine wpAny_handleBy_cons (codeAny_handlers_test ?_) (by intro q; cases q)
        refine nam hc ((PySem.W.exm_one (M := model X.prog X.w) J3.kIn LT hb1).here ?_)
        cases b with
        | false => exact ih (hno rfl)
        | true =>
          refine codeAny_handlers_suite (HandSPX.lands_againZ fl3 fun g4 fl4 up4 => ?_)
          have J4 : Inv X pins τ K1 { s' with heap := g4 } := J.landed nb fl4.1 ((up.trans up3).trans up4) os ag
          obtain ⟨o4, v4, e4, z4, d4⟩ := fl4.there
          have S4 := J4.suite e4 d4 na nL nF
          refine wpAny_mono ((hsu a o4 cls d (X.pn ++ pins) z4 ⟨_, d4⟩).run [] _ _ K1 _ S4 ((hyes rfl a na).2 rfl)) (fun f s6 hsp => ?_) (fun _ _ z => z.elim)
          cases f with
          | next => obtain ⟨τ6, K6, S6, q6⟩ := hsp; exact ⟨_, _, S6.unsuite ok, q6⟩
          | brk => obtain ⟨τ6, K6, S6, q6⟩ := hsp; exact ⟨_, _, S6.unsuite ok, q6⟩
          | cont => obtain ⟨τ6, K6, S6, q6⟩ := hsp; exact ⟨_, _, S6.unsuite ok, q6⟩
          | ret u => obtain ⟨v6, τ6, K6, S6, r6, q6⟩ := hsp; exact ⟨_, _, _, S6.unsuite ok, r6, q6⟩
    exact go hh w
  refine wpAny_mono run (fun f s1 hsp => ?_) (fun e s1 he => he)
  cases f with
  | next => obtain ⟨τ, K1, J', q⟩ := hsp; exact wpAny_execs_nil ⟨τ, K1, J'.ofTry ok, q⟩
  | brk => obtain ⟨τ, K1, J', q⟩ := hsp; exact ⟨τ, K1, J'.ofTry ok, q⟩
  | cont => obtain ⟨τ, K1, J', q⟩ := hsp; exact ⟨τ, K1, J'.ofTry ok, q⟩
  | ret u => obtain ⟨v, τ, K1, J', r, q⟩ := hsp; exact ⟨v, τ, K1, J'.ofTry ok, r, q⟩
end
end Mi
end

section
set_option maxRecDepth 100000
set_option maxHeartbeats 2000000
set_option autoImplicit false
namespace Mi
open PySem PySem.Spec PyProof.Rows L2

/-! ### the classes of errors, by number -/
def xNames : List Str := ["MindError", "NoModel", "NoWorld", "NoMind", "NoSaying", "NoDeed", "NoEvent", "NoFact", "NoMinds", "NoLot", "NoCount", "NoText", "Unlike", "Common", "CantBe", "TooMany", "TooLong", "Nothing", "", "", "Turner", "Parter", "Room"]
def xName (j : Nat) : Str := xNames.getD j ""
def isSub (a c : Nat) : Bool := decide (a = c) || decide (c = 0)
/-- which defs make lambdas -/
def makers : List Str := ["is_good", "plan", "broken"]
def nTab (K : PySem.W.Frag) : Nat := if (PySem.W.nsIn K mainGlobals "broken").join.isSome then 3 else if (PySem.W.nsIn K mainGlobals "is_good").join.isSome then 1 else 0
def mkr (j : Nat) : Str := makers.getD (lamT j) ""
def fnNames : List Str := ["is_knowing", "is_sound", "knows_itself"]
def fnName (i : Nat) : Str := fnNames.getD i ""
def clX (K : PySem.W.Frag) (j : Nat) : Addr := if j = 99 then nTab K else if j < 110 then (He.cT K (makers.getD (j - 100) "", none)).2 else if j < 120 then He.ga K (mkr (j - 110)) else if j < 200 then (He.cT K (makers.getD (j - 120) "", none)).1 else He.ga K (fnName (j - 200))
def clA (K : PySem.W.Frag) (j : Nat) : Addr := if 99 ≤ j then clX K j else He.ga K (xName j)
theorem clA_lt {K : PySem.W.Frag} {j : Nat} (h : j < 99) : clA K j = He.ga K (xName j) := if_neg (by omega)
structure XCl (K : PySem.W.Frag) (cl : Nat → Addr) (xs : List Nat) (j : Nat) : Prop where
  kp : PySem.W.keepIn K (.ref (cl j)) = true
  be : PySem.W.subIn K (.ref (cl j)) (.type "BaseException") = some true
  ty : PySem.W.typeIn K (.ref (cl j)) = some (.type "type")
  ga : PySem.W.findIn K (.ref (cl j)) "__getattribute__" = some (some (.builtin "BaseException.__getattribute__"))
  gg : PySem.W.findIn K (.ref (cl j)) "__getattr__" = some none
  hd : PySem.W.hasDictIn K (cl j) = true
  ca : PySem.W.findIn K (.ref (cl j)) "__class__" = some (some (.builtin "object.__class__"))
  mo : PySem.W.mroIn K (cl j) (.type "object") = some true
  kv : PySem.W.kitOne K (.ref (cl j)) (.type "ValueError") = some true
  ex : ∀ c ∈ xs, PySem.W.exmOne K (.ref (cl j)) (.ref (cl c)) = some (isSub j c)
  ki : ∀ c ∈ xs, PySem.W.kitOne K (.ref (cl j)) (.ref (cl c)) = some (isSub j c)
def xclB (K : PySem.W.Frag) (cl : Nat → Addr) (xs : List Nat) (j : Nat) : Bool :=
  PySem.W.keepIn K (.ref (cl j)) && decide (PySem.W.subIn K (.ref (cl j)) (.type "BaseException") = some true) && decide (PySem.W.typeIn K (.ref (cl j)) = some (.type "type")) && decide (PySem.W.findIn K (.ref (cl j)) "__getattribute__" = some (some (.builtin "BaseException.__getattribute__"))) &&
  decide (PySem.W.findIn K (.ref (cl j)) "__getattr__" = some none) && PySem.W.hasDictIn K (cl j) && decide (PySem.W.findIn K (.ref (cl j)) "__class__" = some (some (.builtin "object.__class__"))) && decide (PySem.W.mroIn K (cl j) (.type "object") = some true) &&
  decide (PySem.W.kitOne K (.ref (cl j)) (.type "ValueError") = some true) && xs.all (fun c => decide (PySem.W.exmOne K (.ref (cl j)) (.ref (cl c)) = some (isSub j c))) && xs.all (fun c => decide (PySem.W.kitOne K (.ref (cl j)) (.ref (cl c)) = some (isSub j c)))
theorem xclB_ok {K : PySem.W.Frag} {cl : Nat → Addr} {xs : List Nat} {j : Nat} (h : xclB K cl xs j = true) : XCl K cl xs j := by
  unfold xclB at h
  simp only [Bool.and_eq_true, decide_eq_true_eq, List.all_eq_true] at h
  obtain ⟨⟨⟨⟨⟨⟨⟨⟨⟨⟨h1, h2⟩, h3⟩, h4⟩, h5⟩, h6⟩, h7⟩, h8⟩, h9⟩, h10⟩, h11⟩ := h
  exact ⟨h1, h2, h3, h4, h5, h6, h7, h8, h9, h10, h11⟩
/-- a class with an own __init__ -/
def oexB (K : PySem.W.Frag) (C : Addr) : Bool := (match K.lookup C with
  | some ⟨.type "type", _, .cls cd, sl⟩ => (match cd.mro, sl.toList with
    | .ref C' :: bm, [_, _, _, _, some (.builtin n), _] => C' == C && n == "ValueError.__new__" && !cd.hasDel && cd.hasDict && PySem.HandSPX.refsVE bm
    | _, _ => false)
  | _ => false) && decide (PySem.W.findIn K (.ref C) "__setattr__" = some (some (.builtin "object.__setattr__"))) && decide (PySem.W.subIn K (.ref C) (.type "BaseException") = some true) && decide (PySem.W.typeIn K (.ref C) = some (.type "type")) && PySem.W.keepIn K (.ref C)
theorem oexB_ok {K : PySem.W.Frag} {C : Addr} (h : oexB K C = true) : OexC K C := by
  unfold oexB at h
  simp only [Bool.and_eq_true, decide_eq_true_eq] at h
  obtain ⟨⟨⟨⟨q, h2⟩, h3⟩, h4⟩, h5⟩ := h
  refine ⟨?_, h2, h3, h4, h5⟩
  split at q
  · rename_i dd cd sl ho
    split at q
    · rename_i C' bm k0 k1 k2 k3 n k5 hm hs
      simp only [Bool.and_eq_true, beq_iff_eq, Bool.not_eq_true'] at q
      obtain ⟨⟨⟨⟨rfl, rfl⟩, hdel⟩, hdi⟩, ht⟩ := q
      obtain ⟨nm, bs, mro, ns, qn, hd, sn, sub, ab, col, del⟩ := cd
      dsimp only at hm hdel hdi
      subst hm hdel hdi
      have hsl : sl = #[k0, k1, k2, k3, some (.builtin "ValueError.__new__"), k5] := by
        obtain ⟨l⟩ := sl
        simp only at hs
        rw [hs]
      subst hsl
      exact ⟨_, _, _, _, bm, _, _, _, _, _, _, _, _, _, _, ho, ht⟩
    · cases q
  · cases q
abbrev veT : List Value := [.type "ValueError", .type "Exception", .type "BaseException", .type "object"]
/-- all that is asked of the classes -/
structure XT (K : PySem.W.Frag) (mg : Str → Option Value) (cl : Nat → Addr) (xs : List Nat) : Prop where
  g : ∀ j ∈ xs, mg (xName j) = some (.ref (cl j))
  c : ∀ j ∈ xs, XCl K cl xs j
  n : ∀ j ∈ xs, j ≠ 4 → j ≠ 14 → PySem.W.excIn K (cl j) veT "ValueError.__new__" = true
  o : ∀ j ∈ xs, j = 4 ∨ j = 14 → OexC K (cl j)
  f : ∀ j ∈ xs, j = 4 ∨ j = 14 → PySem.W.findIn K (.ref (cl j)) (xField j) = some none
  sg : PySem.W.specialIn K (.builtin "object.__class__") "__get__" = some (some (.builtin "getset_descriptor.__get__"))
  st : PySem.W.takesIn K (.builtin "object.__class__") = some true
def xtB (K : PySem.W.Frag) (xs : List Nat) : Bool :=
  xs.all (fun j => decide (j < 99) && (He.Fa.glo (xName j)).ok K) && xs.all (fun j => xclB K (clA K) xs j) && xs.all (fun j => if j == 4 || j == 14 then (oexB K (clA K j) && decide (PySem.W.findIn K (.ref (clA K j)) (xField j) = some none)) else PySem.W.excIn K (clA K j) veT "ValueError.__new__") &&
  decide (PySem.W.specialIn K (.builtin "object.__class__") "__get__" = some (some (.builtin "getset_descriptor.__get__"))) && decide (PySem.W.takesIn K (.builtin "object.__class__") = some true)
theorem xtB_ok {K : PySem.W.Frag} {h : Heap} {mg : Str → Option Value} {xs : List Nat} (X : K.In h) (G : h.Ns mainGlobals mg) (e : xtB K xs = true) : XT K mg (clA K) xs := by
  unfold xtB at e
  simp only [Bool.and_eq_true, decide_eq_true_eq, List.all_eq_true] at e
  obtain ⟨⟨⟨⟨h1, h2⟩, h3⟩, h8⟩, h9⟩ := e
  have two : ∀ j ∈ xs, j = 4 ∨ j = 14 → oexB K (clA K j) = true ∧ PySem.W.findIn K (.ref (clA K j)) (xField j) = some none := fun j hj q => by
    have z := h3 j hj
    rw [if_pos (by rcases q with rfl | rfl <;> rfl)] at z
    simpa using z
  refine ⟨fun j hj => by rw [clA_lt (h1 j hj).1]; exact He.glo_ok X G (h1 j hj).2, fun j hj => xclB_ok (h2 j hj), fun j hj n1 n2 => ?_, fun j hj q => oexB_ok (two j hj q).1, fun j hj q => (two j hj q).2, h8, h9⟩
  have z := h3 j hj
  rw [if_neg (by simp [n1, n2])] at z
  exact z

/-! ### raise C("..") -/
section
variable {cl : Nat → Addr} {X : Cx} {W : WX} {pos p p2 p3 : Pos} {x m : Str} {jj : Nat}
def sRaise0 (j : Nat) : ES := fun env st => .ok (.ex ⟨j, none⟩ env) st
theorem ss_raise0 {xs : List Nat} (T : XT X.K X.mg cl xs) (j : Nat) (hj : j ∈ xs) (n4 : j ≠ 4) (n14 : j ≠ 14) (hx : xName j = x) (hc : X.calm = true) (tk : L2N.Takes X W) (hg : Gl X x) (hdb : (x == ("__debug__" : Str)) = false := by decide) :
    SS cl X W (.Raise (some (.Call (.Name x p) [.Constant (.str m) jj p2] [] p3)) none pos) (sRaise0 j) :=
  (L2N.ps_raise hc tk (L2N.pmk_own PySem.F.excBase_ValueError (T.n j hj n4 n14) (hx ▸ T.g j hj) (T.c j hj).kp (raises_own (T.c j hj).be (T.c j hj).ty) hg hdb)).impM fun D σ H h => by
    obtain ⟨G, m, env, st, rl, en, p⟩ := h
    exact p (.ref (cl j)) none σ H G m (Ext.refl _ _ _) rl en ⟨rfl, rfl⟩
end
end Mi
end

section
set_option maxRecDepth 100000
set_option maxHeartbeats 2000000
set_option autoImplicit false
namespace Mi
open PySem PySem.Spec PyProof.Rows L2

/-! ### raise C(e), C with an own __init__ -/
/-- what __init__ does: self.f = v -/
def spI (K : PySem.W.Frag) (f : Str) : Sp := fun vs H Q _ => ∃ (a C : Addr) (y : V), vs = [.ref a, y] ∧ OexC K C ∧ PySem.W.findIn K (.ref C) f = some none ∧ H a = some (exo a C none) ∧ ∀ dx, H dx = none → dx ≠ a → Q .non (upd (upd H dx (exd dx [(f, y)])) a (exo a C (some dx)))
section
variable {cl : Nat → Addr} {X : Cx} {W : WX} {pos p p2 p3 : Pos} {x f : Str} {e : Expr} {ee : EE}
def sRaise1 (j : Nat) (ee : EE) : ES := fun env st => (ee env st).bindS env fun v s => match v with
  | .d x => .ok (.ex ⟨j, some x⟩ env) s
  | _ => .bad
end
/-- the __init__ itself -/
theorem fn_init {P : Program} {w : World} {K : PySem.W.Frag} {mg : Str → Option Value} {base : Heap} {x qual f : Str} {params : Arguments} {scope : Scope} {dvs : List V} {kws : List (Str × V)} {fa : Addr} {fd : FuncData} {p1 p2 p3 p4 : Pos} {k : Nat}
    (F : FunD K x qual params [.Assign [.Attribute (.Name "self" p1) f p2] (.Name f p3) p4] scope dvs kws fa fd) (S : FnScope [("self" : Str), f] [("self" : Str), f] scope) (hv : (f == ("__debug__" : Str)) = false) (hc : (f == ("__classdict__" : Str)) = false) (l1 : scope.names.lookup ("self" : Str) = some .local) (l2 : scope.names.lookup f = some .local)
    (hsw : ∀ (e : Env), swapsWith (.Name f p3) (some (.Attribute (.Name "self" p1) f p2)) p4.line e = pure false) : FnOk P w K mg base (L2N.CX P w) (k + 1) fa fd ["self", f] (spI K f) := by
  refine F.ok S (fun vs H Q E h => ?_) (fun cdv A outer s H vs Q E hr hh => ?_)
  · obtain ⟨a, C, y, rfl, _⟩ := h; rfl
  · obtain ⟨a, C, y, rfl, O, hf, ha, q⟩ := hh
    refine ⟨_, pss_one (ps_ost (pe_var (i := 0) (x := "self") rfl (.inl l1) (by decide) (by decide)) (pe_var (i := 1) (x := f) rfl (.inl l2) hv hc) (hsw _)), ?_⟩
    refine ⟨y, rfl, .ref a, rfl, a, C, rfl, O, hf, .inl ⟨ha, fun dx h1 h2 => ?_⟩⟩
    exact q dx h1 h2
end Mi
end

section
set_option maxRecDepth 100000
set_option maxHeartbeats 2000000
set_option autoImplicit false
namespace Mi
open PySem PySem.Spec PyProof.Rows L2

/-! ### xs.count(v) -/
section
variable {cl : Nat → Addr} {X : Cx} {W : WX} {pos apos p : Pos} {o a : Expr} {ea eb : EE}
def eCount (eo ea : EE) : EE := fun env st => (eo env st).bind fun v s1 => match lsOf v s1 with
  | some _ => (ea env s1).bind fun u s2 => (match lsOf v s2, datOf u s2 with
    | some xs, some d => if fitsIn xs d = true then .ok (.d (.int ((xs.countP fun y => PyData.eqv y d : Nat) : Int))) s2 else .bad
    | _, _ => .bad)
  | none => .bad
def rCnt (X : Cx) (cl : Nat → Addr) : V → List V → Hp → VK → Prop := fun x vs H Q => ∃ G m st av bv y xs d, vs = [y] ∧ Rl (rc X cl) G m H st ∧ RepV (rc X cl) G m x av ∧ RepV (rc X cl) G m y bv ∧ lsOf av st = some xs ∧ datOf bv st = some d ∧ fitsIn xs d = true ∧ Q (.int ((xs.countP fun y => PyData.eqv y d : Nat) : Int)) H
theorem mt_cnt (hu : X.A.units + 200 < cLine) : MtM X "list.count" (rCnt X cl) := by
  intro pins s σ H x vs v us Q I rx rv h
  obtain ⟨G, m, st, av, bv, y, xs, d, rfl, rl, ra, rb, e1, e2, hf, hq⟩ := h
  obtain ⟨u, rfl, ru⟩ := rv.one
  obtain ⟨f1, f2, f3⟩ := fitsIn_is hf
  obtain ⟨bs, r1⟩ := Dp.reads I d y u (dat_of rl rb e2 f2) ru
  obtain ⟨l, ws, rfl, k, rw'⟩ := ls_of rl ra e1
  obtain ⟨as, r2⟩ := Dp.reads I (.list xs) _ v (.lst (SqL.of k) (RepAll.dp rl.sub f1 rw')) rx
  cases rx
  cases r2 with
  | @list _ ob vals n _ as h1 h2 h3 h4 => exact SeqAt.count_list_data ⟨ob, h1, h2, n, h3⟩ h4 r1 f1 f2 (by omega) ⟨.int _, H, I.tok _, ⟨_, rfl⟩, hq⟩
theorem se_count (hu : X.A.units + 200 < cLine) (ho : SE cl X W o ea) (ha : SE cl X W a eb) (hbase : attributeBase o "count" X.env (eval o X.env) = eval o X.env := by rfl)
    (hfew : ((backTo pos (starEach [a] X.env)).all (fun x => !x.1) && (backToKw pos (keywordEach [] X.env)).all (fun x => x.1.isSome) && decide ([a].length + ([] : List Keyword).length + (if ([] : List Keyword).isEmpty then 0 else 1) < 30)) = true := by rfl)
    (hline : (apos.endLine == pos.line) = true := by rfl) (hs : starEach [a] X.env = (false, eval a X.env) :: starEach [] X.env := by rfl) (hplain : (backTo pos (starEach [] X.env)).any (·.1) = false := by rfl) :
    SE cl X W (.Call (.Attribute o "count" apos) [a] [] pos) (eCount ea eb) :=
  (pe_bm PySem.F.plainAttrs_list PySem.F.slot_list_count PySem.F.type_list_count (mt_cnt (cl := cl) hu) ho (pa_cons ha pa_nil hs) hbase hfew hline hs hplain).impM fun σ H Q h => by
  obtain ⟨G, m, env, st, rl, en, p⟩ := h
  refine ⟨G, m, env, st, rl, en, Post.bindE p fun v s1 x H1 G1 m1 _ e1 rl1 r1 p1 => ?_⟩
  split at p1
  · rename_i ys ey
    obtain ⟨b', us, rfl, hb, rb⟩ := ls_of rl1 r1 ey
    refine ⟨.inl ⟨rfl, us, SqL.of hb⟩, G1, m1, env, s1, rl1, en.ext e1, Post.bindE p1 fun u s2 y H2 G2 m2 _ e2 rl2 r2 p2 => ?_⟩
    split at p2
    · rename_i xs d ex ed
      split at p2
      · rename_i hc
        exact ⟨G2, m2, s2, v, u, y, xs, d, rfl, rl2, r1.ext e2, r2, ex, ed, hc, p2 _ H2 G2 m2 (Ext.refl _ _ _) rl2 (.d (.int _))⟩
      · exact p2.elim
    · exact p2.elim
  · exact p1.elim
end

/-! ### a def called within an except suite, with the error that is held -/
structure FnX (P : Program) (w : World) (K : PySem.W.Frag) (mg : Str → Option Value) (base : Heap) (CX : CXT) (k : Nat) (f : Addr) (fd : FuncData) (ps : List Str) (sp : Sp) (p : Addr × Obj) : Prop where
  len : ∀ vs H Q E, sp vs H Q E → vs.length = ps.length
  run : ∀ (A : Around) (outer : List Env) (s : Shared) (H : Hp) (args : Args) (us : List Value) (vs : List V) (Q : VK) (E : XK), L2H.RoomH k A → L2H.Hot1 A p → L2H.PinOk outer H s p → Env0 P w K mg base A outer s H → BindsTo s fd args (ps.zip us) → Vals vs us → sp vs H Q E →
    codeAny (model P w) A (.call (.ref f) args) (CR CX outer P w H s Q E) s
theorem fnX_of {CX : CXT} {P : Program} {w : World} {K : PySem.W.Frag} {mg : Str → Option Value} {base : Heap} {k : Nat} {f : Addr} {name qual : Str} {params : Arguments} {body : List Stmt} {scope : Scope} {dV kV doc pm cdv ct oc : Value} {an od : Option Addr}
    {osl : Array (Option Value)} {N ps : List Str} {sp : Sp} {p : Addr × Obj} (lk : K.lookup f = some ⟨oc, od, .func (PySem.W.fnOf name qual params body scope dV kV doc pm an cdv ct), osl⟩) (hcd : PySem.W.codeIn K cdv qual = true) (S : FnScope N ps scope)
    (len : ∀ vs H Q E, sp vs H Q E → vs.length = ps.length)
    (hbody : ∀ (A : Around) (outer : List Env) (s : Shared) (H : Hp) (vs : List V) (Q : VK) (E : XK), L2H.Hot1 A p → L2H.RoomH k (A.deeper (envOfC qual scope s.heap.objs.size f cdv)) → sp vs H Q E →
      ∃ t, PSs (L2H.cxH CX P w K mg base N qual scope f cdv A outer s H E p) body t ∧ t { nx := fun _ H' => Q .non H', rt := Q } (L2.start N vs) H) :
    FnX P w K mg base CX (k + 1) f (PySem.W.fnOf name qual params body scope dV kV doc pm an cdv ct) ps sp p := by
  constructor
  · exact len
  · intro A outer s H args us vs Q E hr hot hpin e0 hb r hsp
    have hl := len _ _ _ _ hsp
    have up : ∀ b o, base.get? b = some o → s.heap.get? b = some o := fun b o e => (e0.bs b o e).1
    have KX : K.In s.heap := e0.mod.kin.keeps up
    have lim : s.heap.NoLimit := e0.mod.nolimit.keeps up
    have kinds : ∀ y ∈ ps.zip us, scope.names.lookup y.1 = some .local ∨ (scope.names.lookup y.1 = some .cell ∧ ((cellsFrom (s.heap.objs.size + 1) scope.names []).lookup y.1).isSome = true) := fun y hy => by
      obtain ⟨n, v⟩ := y
      rcases S.par n (List.of_mem_zip hy).1 with q | q
      · exact .inl q
      · exact .inr ⟨q, PySem.W.cellsFrom_some _ _ _ (.inl q)⟩
    refine codeAny_call_function hr.depth (KX _ _ lk) rfl S.co S.gen rfl (PySem.W.codeRec_of KX hcd) (hb _ _ _ _ ?_)
    refine wpAny_newFunctionEnv_cells S.kind kinds fun env he s1 x => ?_
    subst he
    refine ⟨lim.keeps x.toInCall.keep, codeAny_func ?_⟩
    obtain ⟨t, ht, hq⟩ := hbody A outer s H vs Q E hot (hr.deeper _) hsp
    have I : Inv (L2H.cxH CX P w K mg base N qual scope f cdv A outer s H E p) [] (L2.start N vs) H s1 := L2H.inv_startH S hpin e0 hl r x
    refine wpAny_mono (ht.run [] s1 (L2.start N vs) H _ I hq) (fun fl s' hs => ?_) fun e s' hs => hs
    cases fl with
    | ret u => obtain ⟨v, σ', H', J, rv, q⟩ := hs; exact ⟨v, H', J.os, J.bare, J.base, J.hok, rv, q⟩
    | next => obtain ⟨σ', H', J, q⟩ := hs; exact ⟨V.non, H', J.os, J.bare, J.base, J.hok, rfl, q⟩
    | brk => obtain ⟨_, _, _, q⟩ := hs; exact q.elim
    | cont => obtain ⟨_, _, _, q⟩ := hs; exact q.elim
section
variable {X : Cx} {CX : CXT} {k : Nat} {f : Addr} {fd : FuncData} {ps : List Str} {sp : Sp} {E : L2.St → XK} {x : Str} {q pos : Pos} {e : Expr} {es : List Expr} {t : TA} {p : Addr × Obj}
theorem pe_callX (F : FnX X.prog X.w X.K X.mg X.base CX k f fd ps sp p) (hr : L2H.RoomH k X.A) (hot : L2H.Hot1 X.A p) (hpn : p ∈ X.pn) (hg : Gl X x) (hm : X.mg x = some (.ref f)) (hk : PySem.W.keepIn X.K (.ref f) = true) (hb : Binds X.K fd ps []) (hx : ∀ σ, PassesAt CX X σ (E σ))
    (ha : PA X (e :: es) t) (hdb : (x == ("__debug__" : Str)) = false := by decide) (he : starEach (e :: es) X.env = (false, eval e X.env) :: starEach es X.env := by rfl) (hpl : (backTo pos (starEach es X.env)).any (·.1) = false := by rfl) :
    PE X (.Call (.Name x q) (e :: es) [] pos) (tCallS sp E t) := by
  constructor
  intro pins s σ H Q I h
  apply wpAny_Call_Name_kw
  apply ld_glob I hg hm ?_ hdb
  refine PySem.W.callWith_K (h₀ := X.base) I.ok.mod.kin hk ?_ he hpl
  refine thn (ha.run pos pins s σ H _ I h) fun us s1 q1 => ?_
  obtain ⟨vs, H1, I1, r, hsp⟩ := q1
  refine ⟨I1.kIn, ?_⟩
  have hl : us.length = ps.length := by rw [← r.length]; exact F.len _ _ _ _ hsp
  have b := hb s1 us I1.kIn (by rw [List.append_nil]; exact hl)
  rw [List.append_nil] at b
  have P1 := I1.pin p (List.mem_append_left _ hpn)
  have hpin : L2H.PinOk X.stack H1 s1 p := ⟨P1.1, P1.2.1, fun hm => (List.mem_cons.mp (I1.stkSub p.1 hm)).elim P1.2.2.1 P1.2.2.2.1, P1.2.2.2.2⟩
  refine wpAny_call (codeAny_mono (F.run X.A X.stack s1 H1 ⟨us, []⟩ us vs Q (E σ) hr hot hpin I1.env0 b r hsp) fun r s' hq => ?_)
  cases r with
  | error e => exact hx σ pins H1 s1 e s' I1 hq
  | ok fl =>
    cases fl with
    | ret u => exact I1.after hq
    | next => exact hq.elim
    | brk => exact hq.elim
    | cont => exact hq.elim
end

/-! ### isinstance(e, C), e an error that is held -/
section
variable {cl : Nat → Addr} {X : Cx} {W : WX} {pos p p2 : Pos} {a : Expr} {ea : EE} {A0 : Addr} {oe : Obj} {d : Option Addr} {j : Nat}
def rIsX (K : PySem.W.Frag) (D A0 : Addr) (d : Option Addr) : List V → Hp → VK → Prop := fun xs H Q => ∃ (c : V) (cv : Value) (b : Bool), xs = [.ref A0, c] ∧ (∀ u, RelV c u → u = cv) ∧ PySem.W.kitOne K (.ref D) cv = some b ∧ (∀ q, d = some q → ∃ fs, H q = some (.xd fs)) ∧ Q (.bl b) H
theorem call_isX {mg : Str → Option Value} {xs : List Nat} (T : XT X.K mg cl xs) (hj : j ∈ xs) (hp : (A0, oe) ∈ X.pn) (hz : L2N.Zn (.ref (cl j)) d oe) (hf : ∃ vs, oe.data = .fields vs) : CallR X (.builtin "isinstance") (rIsX X.K (cl j) A0 d) := by
  intro pins s σ H zs us Q I r h
  obtain ⟨c, cv, b, rfl, hcv, e, hd, q⟩ := h
  cases r with
  | cons rx rr =>
    cases rr with
    | cons rt rr =>
      cases rr
      cases rx
      have ec := hcv _ rt
      subst ec
      obtain ⟨hget, _⟩ := I.pin (A0, oe) (List.mem_append.mpr (.inl hp))
      obtain ⟨vs, hv⟩ := hf
      have no : PySem.W.notCls oe = true := by unfold PySem.W.notCls; rw [hv]
      have J : ∃ od, PySem.W.InstAt s.heap A0 oe (cl j) od := by
        cases hd0 : d with
        | none => exact ⟨none, hget, hz.1, no, by rw [hz.2.1, hd0]; trivial⟩
        | some q0 =>
          obtain ⟨fs, hq⟩ := hd q0 hd0
          obtain ⟨mA, hns, _⟩ := (show ObjOk X.prog X.w H s.heap q0 (.xd fs) from I.hok q0 _ hq)
          obtain ⟨od, ho, _⟩ := lookIn_ns hns
          exact ⟨some od, hget, hz.1, no, by rw [hz.2.1, hd0]; exact ho⟩
      obtain ⟨od, J⟩ := J
      have c := T.c j hj
      have hcl : (PySem.W.clsIn X.K (cl j)).isSome = true := by
        obtain ⟨cd, hc, _⟩ := PySem.W.any_some c.hd
        rw [hc]; rfl
      exact PySem.W.kia_one (PySem.W.kitx_exc hcl c.ga c.gg c.be c.ca T.sg T.st c.mo) I.kIn J e (fun z => nomatch z) fun tk => ⟨.bl b, H, I.kept (t' := tk) fun _ _ z => z, rfl, q⟩
def eIsX (A0 : Addr) (d : Option Addr) (b : Bool) (ea : EE) : EE := fun env st => (ea env st).bind fun v s => match v with
  | .a q e => if q = A0 ∧ e = d then .ok (.d (.bool b)) s else .bad
  | _ => .bad
theorem se_isX {xs : List Nat} (T : XT X.K X.mg cl xs) (hj : j ∈ xs) (hp : (A0, oe) ∈ X.pn) (hz : L2N.Zn (.ref (cl j)) d oe) (hf : ∃ vs, oe.data = .fields vs) {y : Str} (c : Nat) (hc : c ∈ xs) (hy : xName c = y) (ha : SE cl X W a ea) (hg : Gl X "isinstance") (hm : X.mg "isinstance" = none) (hgy : Gl X y) (hdb : (y == ("__debug__" : Str)) = false := by decide)
    (he : starEach [a, .Name y p2] X.env = (false, eval a X.env) :: starEach [.Name y p2] X.env := by rfl) (he2 : starEach [.Name y p2] X.env = (false, eval (.Name y p2) X.env) :: starEach [] X.env := by rfl) (hpl : (backTo pos (starEach [.Name y p2] X.env)).any (·.1) = false := by rfl) :
    SE cl X W (.Call (.Name "isinstance" p) [a, .Name y p2] [] pos) (eIsX A0 d (isSub j c) ea) :=
  (pe_callB (call_isX T hj hp hz hf) hg hm (by decide +kernel) (pa_cons ha (pa_cons (pe_glob (v := .ref (cl c)) hgy (hy ▸ T.g c hc) rfl hdb) pa_nil he2) he) (by decide) (by decide) he hpl).impM fun σ H Q h => by
  obtain ⟨G, m, env, st, rl, en, p⟩ := h
  refine ⟨G, m, env, st, rl, en, Post.bindE p fun v s1 x H1 G1 m1 _ e1 rl1 r1 p1 => ?_⟩
  split at p1
  · rename_i q e
    split at p1
    · rename_i h2
      obtain ⟨rfl, rfl⟩ := h2
      cases r1 with
      | a hh => exact ⟨.ref (cl c), .ref (cl c), isSub j c, rfl, fun u ru => ru, (T.c j hj).ki c hc, fun q hq => let ⟨fs, z⟩ := hh q hq; ⟨fs, rl1.sub _ _ z⟩, p1 _ H1 G1 m1 (Ext.refl _ _ _) rl1 (.d (.bl _))⟩
    · exact p1.elim
  · exact p1.elim
theorem se_isVE {xs : List Nat} (T : XT X.K X.mg cl xs) (hj : j ∈ xs) (hp : (A0, oe) ∈ X.pn) (hz : L2N.Zn (.ref (cl j)) d oe) (hf : ∃ vs, oe.data = .fields vs) (ha : SE cl X W a ea) (hg : Gl X "isinstance") (hm : X.mg "isinstance" = none) (hgy : Gl X "ValueError") (hmy : X.mg "ValueError" = none)
    (he : starEach [a, .Name "ValueError" p2] X.env = (false, eval a X.env) :: starEach [.Name "ValueError" p2] X.env := by rfl) (he2 : starEach [.Name "ValueError" p2] X.env = (false, eval (.Name "ValueError" p2) X.env) :: starEach [] X.env := by rfl) (hpl : (backTo pos (starEach [.Name "ValueError" p2] X.env)).any (·.1) = false := by rfl) :
    SE cl X W (.Call (.Name "isinstance" p) [a, .Name "ValueError" p2] [] pos) (eIsX A0 d true ea) :=
  (pe_callB (call_isX T hj hp hz hf) hg hm (by decide +kernel) (pa_cons ha (pa_cons (pe_bltn (v := .ty "ValueError") hgy hmy PyProof.Rows.Boot.«ValueError» rfl (by decide) (by decide)) pa_nil he2) he) (by decide) (by decide) he hpl).impM fun σ H Q h => by
  obtain ⟨G, m, env, st, rl, en, p⟩ := h
  refine ⟨G, m, env, st, rl, en, Post.bindE p fun v s1 x H1 G1 m1 _ e1 rl1 r1 p1 => ?_⟩
  split at p1
  · rename_i q e
    split at p1
    · rename_i h2
      obtain ⟨rfl, rfl⟩ := h2
      cases r1 with
      | a hh => exact ⟨.ty "ValueError", .type "ValueError", true, rfl, fun u ru => ru, (T.c j hj).kv, fun q hq => let ⟨fs, z⟩ := hh q hq; ⟨fs, rl1.sub _ _ z⟩, p1 _ H1 G1 m1 (Ext.refl _ _ _) rl1 (.d (.bl _))⟩
    · exact p1.elim
  · exact p1.elim
end
end Mi
end

section
set_option maxRecDepth 100000
set_option maxHeartbeats 2000000
set_option autoImplicit false
namespace Mi
open PySem PySem.Spec PyProof.Rows L2

/-! ### what a clause gives, of the error that it holds -/
abbrev HV := Exn → Sto → Option D
def tHE (C : RC) (X8 : List Nat) (o : Option Nat) (a : Addr) (cls : Value) (d : Option Addr) (f : HV) : TE := fun σ H Q => ∃ G m st e x, Rl C G m H st ∧ ExcR C G H e cls d ∧ e.cls ∈ X8 ∧ (∀ i, o = some i → σ[i]? = some (some (.ref a))) ∧ f e st = some x ∧ ∀ v H' G' m', Ext G m H G' m' H' → Rl C G' m' H' st → Rep C G' v x → Q v H'
abbrev HEx (cl : Nat → Addr) (X : Cx) (X8 : List Nat) (o : Option Nat) (E : Expr) (f : HV) : Prop := ∀ (a : Addr) (oe : Obj) (cls : Value) (d : Option Addr) (pn : List (Addr × Obj)), L2N.Zn cls d oe → (∃ vs, oe.data = .fields vs) → PE (X.suite a ((a, oe) :: pn)) E (tHE (rc X cl) X8 o a cls d f)
theorem ExcR.ext {C : RC} {G G' H H' : Hp} {e : Exn} {cls : Value} {d : Option Addr} (s : Sub G G') (h : ExcR C G H e cls d) : ExcR C G' H' e cls d := by
  obtain ⟨h1, h2⟩ := h
  refine ⟨h1, ?_⟩
  cases ea : e.arg with
  | none => rw [ea] at h2; exact h2
  | some x => rw [ea] at h2; obtain ⟨a, v, q1, q2, q3⟩ := h2; exact ⟨a, v, q1, s _ _ q2, q3.sub s⟩
section
variable {cl : Nat → Addr} {X : Cx} {X8 : List Nat} {o : Option Nat} {pos : Pos} {E : Expr} {es : List Expr}
/-- _law_which(e) -/
def whichD (j : Nat) : D := .tuple [.str "refused", .int (if j = 0 then -1 else (j : Int) - 1)]
def hWh : HV := fun e st => if insOk st.length st = true then some (whichD e.cls) else none
structure WhOk (X8 : List Nat) (cl : Nat → Addr) (P : Program) (w : World) (K : PySem.W.Frag) (mg : Str → Option Value) (base : Heap) (k : Nat) (x : Str) : Prop where
  ok : ∃ (fa : Addr) (fd : FuncData), mg x = some (.ref fa) ∧ PySem.W.keepIn K (.ref fa) = true ∧ Binds K fd ["e"] [] ∧ ∀ (a : Addr) (oe : Obj) (d : Option Addr) (j : Nat), j ∈ X8 → L2N.Zn (.ref (cl j)) d oe → (∃ vs, oe.data = .fields vs) →
    ∃ f : FN, (∀ st, insOk st.length st = true → f [.a a d] st = .ok (.d (whichD j)) st) ∧ FnX P w K mg base (L2N.CX P w) k fa fd ["e"] (spF ⟨K, w, cl⟩ 1 f) (a, oe)
theorem he_wh {i k : Nat} {n x : Str} {p1 p2 : Pos} (F : WhOk X8 cl X.prog X.w X.K X.mg X.base k x) (hr : Room k X.A) (hg : Gl X x) (hi : X.N[i]? = some n) (hv : Vis X.env.scope n := by first | exact Or.inl rfl | exact Or.inr (Or.inl rfl) | exact Or.inr (Or.inr rfl)) (hd : (n == ("__debug__" : Str)) = false := by decide) (hcd : (n == ("__classdict__" : Str)) = false := by decide) (hdb : (x == ("__debug__" : Str)) = false := by decide)
    (he : starEach [.Name n p1] X.env = (false, eval (.Name n p1) X.env) :: starEach [] X.env := by rfl) (hpl : (backTo pos (starEach [] X.env)).any (·.1) = false := by rfl) : HEx cl X X8 (some i) (.Call (.Name x p2) [.Name n p1] [] pos) hWh := fun a oe cls d pn z zf => by
  constructor
  intro pins s σ H Q I h
  obtain ⟨G, m, st, e, y, rl, ex, hc, hs, hf, q⟩ := h
  unfold hWh at hf
  split at hf
  · rename_i ok
    cases hf
    obtain ⟨fa, fd, hm, hk, hb, F⟩ := F.ok
    have e1 := ex.1
    subst e1
    obtain ⟨f, hfv, F⟩ := F a oe d e.cls hc z zf
    have hot : L2H.Hot1 (X.suite a ((a, oe) :: pn)).A (a, oe) := ⟨rfl, by
      obtain ⟨vs, hvs⟩ := zf
      exact ⟨vs, hvs, z.2.2 vs hvs⟩⟩
    refine (pe_callX (X := X.suite a ((a, oe) :: pn)) (E := fun _ _ _ _ => False) F (L2H.roomH_mark hr _) hot List.mem_cons_self hg hm hk hb (fun τ pins H s e s' I c => ?_) (pa_cons (pe_var (X := X.suite a ((a, oe) :: pn)) (i := i) hi hv hd hcd) pa_nil he) hdb he hpl).run pins s σ H Q I ?_
    · obtain ⟨_, _, _, _, _, _, _, _, _, _, _, _, z⟩ := c
      exact z.elim
    · refine ⟨.ref a, hs i rfl, G, m, st, [.a a d], rl, .cons (.a fun q0 hq0 => ?_) .nil, rfl, ?_⟩
      · obtain ⟨_, e2⟩ := ex
        cases e3 : e.arg with
        | none => rw [e3] at e2; rw [show d = none from e2] at hq0; cases hq0
        | some x0 =>
          rw [e3] at e2
          obtain ⟨dd, v, q1, q2, q3⟩ := e2
          rw [q1] at hq0
          cases hq0
          exact ⟨_, q2⟩
      · rw [hfv st ok]
        intro v H' G' m' x1 rl1 r1
        cases r1 with
        | d r1 => exact q v H' G' m' x1 rl1 r1
  · cases hf
end

/-! ### try: .. except C as e: return .. -/
def hPick : List (Nat × HV) → Exn → Sto → Option (Option D)
  | [], _, _ => none
  | p :: l, e, st => if isSub e.cls p.1 = true then some (p.2 e st) else hPick l e st
def sTry (X8 : List Nat) (i : Nat) (body : ES) (hs : List (Nat × HV)) : ES := fun env st => match body env st with
  | .ok (.ex e env1) s => if e.cls ∈ X8 ∧ i < env1.length then (match hPick hs e s with
    | some (some x) => .ok (.rt (.d x)) s
    | some none => .bad
    | none => .ok (.ex e env1) s) else .bad
  | r => r
inductive HdR (cl : Nat → Addr) (X : Cx) (X8 : List Nat) (i : Nat) (n : Str) : List ExceptHandler → List (Nat × HV) → Prop
  | nil : HdR cl X X8 i n [] []
  | named {y : Str} {E : Expr} {f : HV} {p p2 p3 : Pos} {hds : List ExceptHandler} {l : List (Nat × HV)} (c : Nat) (hc : c ∈ X8) (hy : xName c = y) (hg : Gl X y) (hdb : (y == ("__debug__" : Str)) = false) (he : HEx cl X X8 (some i) E f) (hi : X.N[i]? = some n) (hl : X.env.kindOf n = some .local) (r : HdR cl X X8 i n hds l) :
      HdR cl X X8 i n (.ExceptHandler (some (.Name y p)) (some n) [.Return (some E) p3] p2 :: hds) ((c, f) :: l)
  | bare {y : Str} {E : Expr} {f : HV} {p p2 p3 : Pos} {hds : List ExceptHandler} {l : List (Nat × HV)} (c : Nat) (hc : c ∈ X8) (hy : xName c = y) (hg : Gl X y) (hdb : (y == ("__debug__" : Str)) = false) (he : HEx cl X X8 none E f) (r : HdR cl X X8 i n hds l) :
      HdR cl X X8 i n (.ExceptHandler (some (.Name y p)) none [.Return (some E) p3] p2 :: hds) ((c, f) :: l)
section
variable {cl : Nat → Addr} {X : Cx} {X8 : List Nat} {W : WX} {i : Nat} {n : Str} {body : List Stmt} {eb : ES} {h0 : ExceptHandler} {hds : List ExceptHandler} {l : List (Nat × HV)} {pos : Pos}
def hTS (C : RC) (X8 : List Nat) (o : Option Nat) (f : HV) : TH := fun a cls d D σ H => tHE C X8 o a cls d f σ H D.rt
theorem hd_cls (T : XT X.K X.mg cl X8) (hN : X.N.Nodup) : ∀ {hds : List ExceptHandler} {l : List (Nat × HV)}, HdR cl X X8 i n hds l → ∃ l' : List (Value × Bool × TH), Cls3 X i n hds l' ∧
    ∀ (D : Ends) (e : Exn) (st : Sto) (G : Hp) (m : List Addr) (H : Hp) (σ : L2.St) (cls : Value) (d : Option Addr), e.cls ∈ X8 → Rl (rc X cl) G m H st → ExcR (rc X cl) G H e cls d → i < σ.length →
      (match hPick l e st with
        | some (some x) => ∀ v H' G' m', Ext G m H G' m' H' → Rl (rc X cl) G' m' H' st → Rep (rc X cl) G' v x → D.rt v H'
        | some none => False
        | none => W cls d σ H) → wCl X.K i W D l' cls d σ H := by
  intro hds l h
  induction h with
  | nil => exact ⟨[], .nil, fun D e st G m H σ cls d _ _ _ _ h => h⟩
  | @named y E f p p2 p3 hds l c hc hy hg hdb he hi hl r ih =>
    obtain ⟨l', c1, c2⟩ := ih
    refine ⟨(.ref (cl c), true, hTS (rc X cl) X8 (some i) f) :: l', .named ⟨hg, hdb, .inl (hy ▸ T.g c hc)⟩ (fun a oe cls d pn z zf => pss_one ((ps_ret (he a oe cls d pn z zf)).impM fun D σ H h => h)) hi hl c1, fun D e st G m H σ cls d h18 rl ex hlen h => ?_⟩
    refine ⟨isSub e.cls c, by rw [ex.1]; exact (T.c e.cls h18).ex c hc, fun hb a ha => ⟨fun _ => ?_, fun z => by cases z⟩, fun hb => ?_⟩
    · unfold hPick at h
      rw [if_pos hb] at h
      dsimp only at h
      cases hf : f e st with
      | none => rw [hf] at h; exact h.elim
      | some x =>
        rw [hf] at h
        exact ⟨G, m, st, e, x, rl, ex, h18, fun k hk => by cases hk; exact List.getElem?_set_self hlen, hf, h⟩
    · unfold hPick at h
      rw [if_neg (by rw [hb]; exact Bool.false_ne_true)] at h
      exact c2 D e st G m H σ cls d h18 rl ex hlen h
  | @bare y E f p p2 p3 hds l c hc hy hg hdb he r ih =>
    obtain ⟨l', c1, c2⟩ := ih
    refine ⟨(.ref (cl c), false, hTS (rc X cl) X8 none f) :: l', .bare ⟨hg, hdb, .inl (hy ▸ T.g c hc)⟩ (fun a oe cls d pn z zf => pss_one ((ps_ret (he a oe cls d pn z zf)).impM fun D σ H h => h)) c1, fun D e st G m H σ cls d h18 rl ex hlen h => ?_⟩
    refine ⟨isSub e.cls c, by rw [ex.1]; exact (T.c e.cls h18).ex c hc, fun hb a ha => ⟨fun z => (by cases z), fun _ => ?_⟩, fun hb => ?_⟩
    · unfold hPick at h
      rw [if_pos hb] at h
      dsimp only at h
      cases hf : f e st with
      | none => rw [hf] at h; exact h.elim
      | some x =>
        rw [hf] at h
        exact ⟨G, m, st, e, x, rl, ex, h18, fun k hk => (by cases hk), hf, h⟩
    · unfold hPick at h
      rw [if_neg (by rw [hb]; exact Bool.false_ne_true)] at h
      exact c2 D e st G m H σ cls d h18 rl ex hlen h
theorem ss_try (T : XT X.K X.mg cl X8) (hs : X.stack = X.env :: X.outer) (hf : X.env.frame = some X.env.locals) (hN : X.N.Nodup) (tk : L2N.Takes X W)
    (hb : ∀ (W : WX) (pn : List (Addr × Obj)) (xe : Value → Shared → Prop), L2N.Takes (X.tr pn xe) W → PassesOwn (model X.prog X.w) X.A X.env xe → SSs cl (X.tr pn xe) W body eb)
    (hh : HdR cl X X8 i n (h0 :: hds) l) : SS cl X W (.Try body (h0 :: hds) [] [] pos) (sTry X8 i eb l) := by
  obtain ⟨l', c1, c2⟩ := hd_cls (W := W) T hN hh
  constructor
  intro pins s σ H D I h
  refine (ps_tryC (tb := fun W => tS (rc X cl) W eb) hs hf hN tk (fun W pn xe t p => hb W pn xe t p) c1).run pins s σ H D I ?_
  obtain ⟨G, m, env, st, rl, en, p⟩ := h
  refine ⟨G, m, env, st, rl, en, ?_⟩
  unfold sTry at p
  cases e0 : eb env st with
  | bad => rw [e0] at p; exact p
  | exc e s => rw [e0] at p; exact p
  | ok fl s1 =>
    rw [e0] at p
    cases fl with
    | nx env1 => exact p
    | bk env1 => exact p
    | ct env1 => exact p
    | rt v => exact p
    | ex e env1 =>
      dsimp only at p
      intro cls d σ' H' G' m' x1 rl1 en1 ex1
      split at p
      · rename_i h18
        refine c2 D e s1 G' m' H' σ' cls d h18.1 rl1 ex1 (by rw [en1.1]; exact h18.2) ?_
        split at p
        · rename_i x ex
          exact fun v H2 G2 m2 x2 rl2 r2 => p v H2 G2 m2 (x1.trans x2) rl2 (.d r2)
        · exact p.elim
        · rename_i ex
          exact p cls d σ' H' G' m' x1 rl1 en1 ex1
      · exact p.elim
end
end Mi
end

section
set_option maxRecDepth 100000
set_option maxHeartbeats 2000000
set_option autoImplicit false
namespace Mi
open PySem PySem.Spec PyProof.Rows L2
/-! ### xs + ys, to a name that is written -/
/-! ### [f, g, ..][i](..) -/
/-- where a def stands -/
def FAt (cl : Nat → Addr) (X : Cx) (k n : Nat) (fa : Addr) (f : FN) : Prop := ∃ (fd : FuncData) (ps : List Str), FnOk X.prog X.w X.K X.mg X.base (L2N.CX X.prog X.w) k fa fd ps (spF (rc X cl) n f) ∧ PySem.W.keepIn X.K (.ref fa) = true ∧ Binds X.K fd ps []
section
variable {cl : Nat → Addr} {X : Cx} {W : WX} {pos p1 p2 : Pos} {i a : Expr} {es fe : List Expr} {er : EA} {ei : EE} {k n : Nat} {fs : List FN}
end
end Mi
end

section
set_option maxRecDepth 100000
set_option maxHeartbeats 2000000
set_option autoImplicit false
namespace Mi
open PySem PySem.Spec PyProof.Rows L2
/-! ### d.update(e), dicts of int keys -/
section
variable {cl : Nat → Addr} {X : Cx} {W : WX} {pos apos : Pos} {o a : Expr} {ea eb : EE}
end
end Mi
end

section
set_option maxRecDepth 100000
set_option autoImplicit false
namespace Mi
open PySem PySem.Spec L2
@[simp] theorem kit_NoneType_int : kitB "NoneType" "int" = some false := by decide +kernel
@[simp] theorem kit_bool_int : kitB "bool" "int" = some true := by decide +kernel
@[simp] theorem kit_int_int : kitB "int" "int" = some true := by decide +kernel
@[simp] theorem kit_str_int : kitB "str" "int" = some false := by decide +kernel
@[simp] theorem kit_list_int : kitB "list" "int" = some false := by decide +kernel
@[simp] theorem kit_tuple_int : kitB "tuple" "int" = some false := by decide +kernel
@[simp] theorem kit_dict_int : kitB "dict" "int" = some false := by decide +kernel
@[simp] theorem kit_NoneType_bool : kitB "NoneType" "bool" = some false := by decide +kernel
@[simp] theorem kit_bool_bool : kitB "bool" "bool" = some true := by decide +kernel
@[simp] theorem kit_int_bool : kitB "int" "bool" = some false := by decide +kernel
@[simp] theorem kit_str_bool : kitB "str" "bool" = some false := by decide +kernel
@[simp] theorem kit_list_bool : kitB "list" "bool" = some false := by decide +kernel
@[simp] theorem kit_tuple_bool : kitB "tuple" "bool" = some false := by decide +kernel
@[simp] theorem kit_dict_bool : kitB "dict" "bool" = some false := by decide +kernel
@[simp] theorem kit_NoneType_tuple : kitB "NoneType" "tuple" = some false := by decide +kernel
@[simp] theorem kit_bool_tuple : kitB "bool" "tuple" = some false := by decide +kernel
@[simp] theorem kit_int_tuple : kitB "int" "tuple" = some false := by decide +kernel
@[simp] theorem kit_str_tuple : kitB "str" "tuple" = some false := by decide +kernel
@[simp] theorem kit_list_tuple : kitB "list" "tuple" = some false := by decide +kernel
@[simp] theorem kit_tuple_tuple : kitB "tuple" "tuple" = some true := by decide +kernel
@[simp] theorem kit_dict_tuple : kitB "dict" "tuple" = some false := by decide +kernel
@[simp] theorem kit_NoneType_str : kitB "NoneType" "str" = some false := by decide +kernel
@[simp] theorem kit_bool_str : kitB "bool" "str" = some false := by decide +kernel
@[simp] theorem kit_int_str : kitB "int" "str" = some false := by decide +kernel
@[simp] theorem kit_str_str : kitB "str" "str" = some true := by decide +kernel
@[simp] theorem kit_list_str : kitB "list" "str" = some false := by decide +kernel
@[simp] theorem kit_tuple_str : kitB "tuple" "str" = some false := by decide +kernel
@[simp] theorem kit_dict_str : kitB "dict" "str" = some false := by decide +kernel
@[simp] theorem kit_NoneType_list : kitB "NoneType" "list" = some false := by decide +kernel
@[simp] theorem kit_bool_list : kitB "bool" "list" = some false := by decide +kernel
@[simp] theorem kit_int_list : kitB "int" "list" = some false := by decide +kernel
@[simp] theorem kit_str_list : kitB "str" "list" = some false := by decide +kernel
@[simp] theorem kit_list_list : kitB "list" "list" = some true := by decide +kernel
@[simp] theorem kit_tuple_list : kitB "tuple" "list" = some false := by decide +kernel
@[simp] theorem kit_dict_list : kitB "dict" "list" = some false := by decide +kernel

/-! ### how the reader goes on, one thing after the other -/
section
def R.andS (r : R Fl) (b : ES) : R Fl := match r with
  | .ok (.nx e) s => b e s
  | r => r
@[simp] theorem andS_nx (e : Ev) (s : Sto) (b : ES) : (R.ok (.nx e) s).andS b = b e s := rfl
@[simp] theorem andS_rt (v : Val) (s : Sto) (b : ES) : (R.ok (.rt v) s).andS b = .ok (.rt v) s := rfl
@[simp] theorem andS_ex (v : Exn) (e : Ev) (s : Sto) (b : ES) : (R.ok (.ex v e) s).andS b = .ok (.ex v e) s := rfl
@[simp] theorem andS_bad (b : ES) : (R.bad : R Fl).andS b = .bad := rfl
@[simp] theorem sSeq_eq (a b : ES) (env : Ev) (st : Sto) : sSeq a b env st = (a env st).andS b := rfl
@[simp] theorem sNx_eq (env : Ev) (st : Sto) : sNx env st = .ok (.nx env) st := rfl
@[simp] theorem sNever_eq (env : Ev) (st : Sto) : sNever env st = .bad := rfl
@[simp] theorem sRetN_eq (env : Ev) (st : Sto) : sRetN env st = .ok (.rt (.d .none)) st := rfl
def R.retS (r : R Val) (env : Ev) : R Fl := r.bindS env fun v s => .ok (.rt v) s
@[simp] theorem retS_ok (v : Val) (s : Sto) (env : Ev) : (R.ok v s).retS env = .ok (.rt v) s := rfl
@[simp] theorem retS_exc (e : Exn) (s : Sto) (env : Ev) : (R.exc e s).retS env = .ok (.ex e env) s := rfl
@[simp] theorem retS_bad (env : Ev) : (R.bad).retS env = .bad := rfl
@[simp] theorem sRet_eq (e : EE) (env : Ev) (st : Sto) : sRet e env st = (e env st).retS env := rfl
def R.dropS (r : R Val) (env : Ev) : R Fl := r.bindS env fun _ s => .ok (.nx env) s
@[simp] theorem dropS_ok (v : Val) (s : Sto) (env : Ev) : (R.ok v s).dropS env = .ok (.nx env) s := rfl
@[simp] theorem dropS_exc (e : Exn) (s : Sto) (env : Ev) : (R.exc e s).dropS env = .ok (.ex e env) s := rfl
@[simp] theorem sExpr_eq (e : EE) (env : Ev) (st : Sto) : sExpr e env st = (e env st).dropS env := rfl
def R.setS (r : R Val) (env : Ev) (i : Nat) : R Fl := r.bindS env fun v s => .ok (.nx (env.set i (some v))) s
@[simp] theorem setS_ok (v : Val) (s : Sto) (env : Ev) (i : Nat) : (R.ok v s).setS env i = .ok (.nx (env.set i (some v))) s := rfl
@[simp] theorem setS_exc (e : Exn) (s : Sto) (env : Ev) (i : Nat) : (R.exc e s).setS env i = .ok (.ex e env) s := rfl
@[simp] theorem sSet_eq (i : Nat) (e : EE) (env : Ev) (st : Sto) : sSet i e env st = (e env st).setS env i := rfl
def R.ifS (r : R Bool) (env : Ev) (a b : ES) : R Fl := r.bindS env fun v s => match v with
  | true => a env s
  | false => b env s
@[simp] theorem ifS_true (s : Sto) (env : Ev) (a b : ES) : (R.ok true s).ifS env a b = a env s := rfl
@[simp] theorem ifS_false (s : Sto) (env : Ev) (a b : ES) : (R.ok false s).ifS env a b = b env s := rfl
@[simp] theorem sIf_eq (t : ET) (a b : ES) (env : Ev) (st : Sto) : sIf t a b env st = (t env st).ifS env a b := rfl
@[simp] theorem eC_eq (x : D) (env : Ev) (st : Sto) : eC x env st = .ok (.d x) st := rfl
def R.op2 (r : R Val) (f : Val → Val → Sto → Option (Val × Sto)) (x : Val) : R Val := r.bind fun y s => R.of (f x y s)
def R.op1 (r : R Val) (f : Val → Val → Sto → Option (Val × Sto)) (b : EE) (env : Ev) : R Val := r.bind fun x s => (b env s).op2 f x
@[simp] theorem op2_ok (y : Val) (s : Sto) (f : Val → Val → Sto → Option (Val × Sto)) (x : Val) : (R.ok y s).op2 f x = R.of (f x y s) := rfl
@[simp] theorem op1_ok (x : Val) (s : Sto) (f : Val → Val → Sto → Option (Val × Sto)) (b : EE) (env : Ev) : (R.ok x s).op1 f b env = (b env s).op2 f x := rfl
@[simp] theorem eOp_eq (f : Val → Val → Sto → Option (Val × Sto)) (a b : EE) (env : Ev) (st : Sto) : eOp f a b env st = (a env st).op1 f b env := rfl
def R.tst (r : R Val) : R Bool := r.bind fun v s => match v with
  | .d (.bool b) => .ok b s
  | _ => .bad
@[simp] theorem tst_ok (b : Bool) (s : Sto) : (R.ok (.d (.bool b)) s).tst = .ok b s := rfl
@[simp] theorem eTst_eq (a : EE) (env : Ev) (st : Sto) : eTst a env st = (a env st).tst := rfl
@[simp] theorem aNil_eq (env : Ev) (st : Sto) : aNil env st = .ok [] st := rfl
def R.cons2 (r : R (List Val)) (x : Val) : R (List Val) := r.bind fun xs s => .ok (x :: xs) s
def R.cons1 (r : R Val) (b : EA) (env : Ev) : R (List Val) := r.bind fun x s => (b env s).cons2 x
@[simp] theorem cons2_ok (xs : List Val) (s : Sto) (x : Val) : (R.ok xs s).cons2 x = .ok (x :: xs) s := rfl
@[simp] theorem cons1_ok (x : Val) (s : Sto) (b : EA) (env : Ev) : (R.ok x s).cons1 b env = (b env s).cons2 x := rfl
@[simp] theorem aCons_eq (a : EE) (r : EA) (env : Ev) (st : Sto) : aCons a r env st = (a env st).cons1 r env := rfl
def R.cb (r : R (List Val)) (f : BF) : R Val := r.bind fun vs s => R.of (f vs s)
@[simp] theorem cb_ok (vs : List Val) (s : Sto) (f : BF) : (R.ok vs s).cb f = R.of (f vs s) := rfl
@[simp] theorem eCB_eq (f : BF) (a : EA) (env : Ev) (st : Sto) : eCB f a env st = (a env st).cb f := rfl
def R.cl (r : R (List Val)) (n : Nat) (f : FN) : R Val := r.bind fun vs s => if vs.length = n then f vs s else .bad
@[simp] theorem cl_ok (vs : List Val) (s : Sto) (n : Nat) (f : FN) : (R.ok vs s).cl n f = if vs.length = n then f vs s else .bad := rfl
@[simp] theorem eCl_eq (n : Nat) (f : FN) (a : EA) (env : Ev) (st : Sto) : eCl n f a env st = (a env st).cl n f := rfl
def R.getv (o : Option (Option Val)) (st : Sto) : R Val := match o with
  | some (some v) => .ok v st
  | _ => .bad
@[simp] theorem getv_ok (v : Val) (st : Sto) : R.getv (some (some v)) st = .ok v st := rfl
@[simp] theorem eVar_eq (i : Nat) (env : Ev) (st : Sto) : eVar i env st = R.getv env[i]? st := rfl
def R.kand (r : R Bool) (b : ET) (env : Ev) : R Bool := r.bind fun v s => match v with
  | true => b env s
  | false => .ok false s
@[simp] theorem kand_true (s : Sto) (b : ET) (env : Ev) : (R.ok true s).kand b env = b env s := rfl
@[simp] theorem kand_false (s : Sto) (b : ET) (env : Ev) : (R.ok false s).kand b env = .ok false s := rfl
@[simp] theorem kAnd_eq (a b : ET) (env : Ev) (st : Sto) : kAnd a b env st = (a env st).kand b env := rfl
def R.kor (r : R Bool) (b : ET) (env : Ev) : R Bool := r.bind fun v s => match v with
  | true => .ok true s
  | false => b env s
@[simp] theorem kor_true (s : Sto) (b : ET) (env : Ev) : (R.ok true s).kor b env = .ok true s := rfl
@[simp] theorem kor_false (s : Sto) (b : ET) (env : Ev) : (R.ok false s).kor b env = b env s := rfl
@[simp] theorem kOr_eq (a b : ET) (env : Ev) (st : Sto) : kOr a b env st = (a env st).kor b env := rfl
def R.knot (r : R Bool) : R Bool := r.bind fun v s => .ok (!v) s
@[simp] theorem knot_ok (b : Bool) (s : Sto) : (R.ok b s).knot = .ok (!b) s := rfl
@[simp] theorem kNot_eq (a : ET) (env : Ev) (st : Sto) : kNot a env st = (a env st).knot := rfl
@[simp] theorem kYes_eq (env : Ev) (st : Sto) : kYes env st = .ok true st := rfl
def R.ifE (r : R Bool) (env : Ev) (a b : EE) : R Val := r.bind fun v s => match v with
  | true => a env s
  | false => b env s
@[simp] theorem ifE_true (s : Sto) (env : Ev) (a b : EE) : (R.ok true s).ifE env a b = a env s := rfl
@[simp] theorem ifE_false (s : Sto) (env : Ev) (a b : EE) : (R.ok false s).ifE env a b = b env s := rfl
@[simp] theorem eIf_eq (t : ET) (a b : EE) (env : Ev) (st : Sto) : eIf t a b env st = (t env st).ifE env a b := rfl
def R.tup (r : R (List Val)) : R Val := r.bind fun vs s => match toDs vs s with
  | some (xs, s2) => if small xs.length = true then .ok (.d (.tuple xs)) s2 else .bad
  | none => .bad
@[simp] theorem tup_ok (vs : List Val) (s : Sto) : (R.ok vs s).tup = match toDs vs s with
  | some (xs, s2) => if small xs.length = true then .ok (.d (.tuple xs)) s2 else .bad
  | none => .bad := rfl
@[simp] theorem eTup_eq (a : EA) (env : Ev) (st : Sto) : eTup a env st = (a env st).tup := rfl
def R.lstD (r : R (List Val)) : R Val := r.bind fun vs s => match toDs vs s with
  | some (xs, s2) => if small xs.length = true then .ok (.d (.list xs)) s2 else .bad
  | none => .bad
@[simp] theorem lstD_ok (vs : List Val) (s : Sto) : (R.ok vs s).lstD = match toDs vs s with
  | some (xs, s2) => if small xs.length = true then .ok (.d (.list xs)) s2 else .bad
  | none => .bad := rfl
@[simp] theorem eLst_eq (a : EA) (env : Ev) (st : Sto) : eLst a env st = (a env st).lstD := rfl
def R.lstR (r : R (List Val)) : R Val := r.bind fun vs s => match toDs vs s with
  | some (xs, s2) => if small xs.length = true then .ok (.r s2.length) (s2 ++ [.lst xs]) else .bad
  | none => .bad
@[simp] theorem lstR_ok (vs : List Val) (s : Sto) : (R.ok vs s).lstR = match toDs vs s with
  | some (xs, s2) => if small xs.length = true then .ok (.r s2.length) (s2 ++ [.lst xs]) else .bad
  | none => .bad := rfl
@[simp] theorem eLstR_eq (a : EA) (env : Ev) (st : Sto) : eLstR a env st = (a env st).lstR := rfl
@[simp] theorem toDs_nil (st : Sto) : toDs [] st = some ([], st) := rfl
@[simp] theorem toDs_d (x : D) (vs : List Val) (st : Sto) : toDs (.d x :: vs) st = match toDs vs st with
  | some (xs, s2) => some (x :: xs, s2)
  | none => none := rfl
def R.isi (r : R Val) (T : String) : R Val := r.bind fun v s => match tyOf v s with
  | some t => (match kitB t T with
    | some b => .ok (.d (.bool b)) s
    | none => .bad)
  | none => .bad
@[simp] theorem isi_ok (v : Val) (s : Sto) (T : String) : (R.ok v s).isi T = match tyOf v s with
  | some t => (match kitB t T with
    | some b => .ok (.d (.bool b)) s
    | none => .bad)
  | none => .bad := rfl
@[simp] theorem eIsi_eq (T : String) (a : EE) (env : Ev) (st : Sto) : eIsi T a env st = (a env st).isi T := rfl
def R.notE (r : R Val) : R Val := r.bind fun v s => match v with
  | .d (.bool b) => .ok (.d (.bool (!b))) s
  | _ => .bad
@[simp] theorem notE_ok (b : Bool) (s : Sto) : (R.ok (.d (.bool b)) s).notE = .ok (.d (.bool (!b))) s := rfl
@[simp] theorem eNot_eq (a : EE) (env : Ev) (st : Sto) : eNot a env st = (a env st).notE := rfl
def R.andE (r : R Val) (b : EE) (env : Ev) : R Val := r.bind fun v s => match v with
  | .d (.bool true) => b env s
  | .d (.bool false) => .ok (.d (.bool false)) s
  | _ => .bad
@[simp] theorem andE_true (s : Sto) (b : EE) (env : Ev) : (R.ok (.d (.bool true)) s).andE b env = b env s := rfl
@[simp] theorem andE_false (s : Sto) (b : EE) (env : Ev) : (R.ok (.d (.bool false)) s).andE b env = .ok (.d (.bool false)) s := rfl
@[simp] theorem eAnd_eq (a b : EE) (env : Ev) (st : Sto) : eAnd a b env st = (a env st).andE b env := rfl
def R.orE (r : R Val) (b : EE) (env : Ev) : R Val := r.bind fun v s => match v with
  | .d (.bool true) => .ok (.d (.bool true)) s
  | .d (.bool false) => b env s
  | _ => .bad
@[simp] theorem orE_true (s : Sto) (b : EE) (env : Ev) : (R.ok (.d (.bool true)) s).orE b env = .ok (.d (.bool true)) s := rfl
@[simp] theorem orE_false (s : Sto) (b : EE) (env : Ev) : (R.ok (.d (.bool false)) s).orE b env = b env s := rfl
@[simp] theorem eOr_eq (a b : EE) (env : Ev) (st : Sto) : eOr a b env st = (a env st).orE b env := rfl
def R.ch3 (r : R Val) (g : Val → Val → Sto → Option (Val × Sto)) (y : Val) (c : EE) (env : Ev) : R Val := r.bind fun z s => match z with
  | .d (.bool true) => (c env s).op2 g y
  | .d (.bool false) => .ok (.d (.bool false)) s
  | _ => .bad
def R.ch2 (r : R Val) (f g : Val → Val → Sto → Option (Val × Sto)) (x : Val) (c : EE) (env : Ev) : R Val := r.bind fun y s => (R.of (f x y s)).ch3 g y c env
def R.ch1 (r : R Val) (f g : Val → Val → Sto → Option (Val × Sto)) (b c : EE) (env : Ev) : R Val := r.bind fun x s => (b env s).ch2 f g x c env
@[simp] theorem ch3_true (s : Sto) (g : Val → Val → Sto → Option (Val × Sto)) (y : Val) (c : EE) (env : Ev) : (R.ok (.d (.bool true)) s).ch3 g y c env = (c env s).op2 g y := rfl
@[simp] theorem ch3_false (s : Sto) (g : Val → Val → Sto → Option (Val × Sto)) (y : Val) (c : EE) (env : Ev) : (R.ok (.d (.bool false)) s).ch3 g y c env = .ok (.d (.bool false)) s := rfl
@[simp] theorem ch2_ok (y : Val) (s : Sto) (f g : Val → Val → Sto → Option (Val × Sto)) (x : Val) (c : EE) (env : Ev) : (R.ok y s).ch2 f g x c env = (R.of (f x y s)).ch3 g y c env := rfl
@[simp] theorem ch1_ok (x : Val) (s : Sto) (f g : Val → Val → Sto → Option (Val × Sto)) (b c : EE) (env : Ev) : (R.ok x s).ch1 f g b c env = (b env s).ch2 f g x c env := rfl
@[simp] theorem eChain_eq (f g : Val → Val → Sto → Option (Val × Sto)) (a b c : EE) (env : Ev) (st : Sto) : eChain f g a b c env st = (a env st).ch1 f g b c env := rfl
def R.parS (r : R (List Val)) (env : Ev) (is : List Nat) : R Fl := r.bindS env fun vs s => if vs.length = is.length then .ok (.nx (setVs is vs env)) s else .bad
@[simp] theorem parS_ok (vs : List Val) (s : Sto) (env : Ev) (is : List Nat) : (R.ok vs s).parS env is = if vs.length = is.length then .ok (.nx (setVs is vs env)) s else .bad := rfl
@[simp] theorem sParN_eq (is : List Nat) (ea : EA) (env : Ev) (st : Sto) : sParN is ea env st = (ea env st).parS env is := rfl
def R.listD (r : R (List D)) : R Val := r.bind fun ds s => .ok (.d (.list ds)) s
@[simp] theorem listD_ok (ds : List D) (s : Sto) : (R.ok ds s).listD = .ok (.d (.list ds)) s := rfl
def R.lcE (r : R (List D)) (vs : List Nat) (tg : Tg) (tt : ET) (ee : EE) (env : Ev) : R Val := r.bind fun xs s => if small xs.length = true then (compL tg tt ee (wipeE env vs) xs s).listD else .bad
@[simp] theorem lcE_ok (xs : List D) (s : Sto) (vs : List Nat) (tg : Tg) (tt : ET) (ee : EE) (env : Ev) : (R.ok xs s).lcE vs tg tt ee env = if small xs.length = true then (compL tg tt ee (wipeE env vs) xs s).listD else .bad := rfl
@[simp] theorem eLc_eq (vs : List Nat) (tg : Tg) (ei : EI) (tt : ET) (ee : EE) (env : Ev) (st : Sto) : eLc vs tg ei tt ee env st = (ei env st).lcE vs tg tt ee env := rfl
def R.seqI (r : R Val) : R (List D) := r.bind fun v s => match v with
  | .d (.list xs) => .ok xs s
  | .d (.tuple xs) => .ok xs s
  | _ => .bad
@[simp] theorem seqI_list (xs : List D) (s : Sto) : (R.ok (.d (.list xs)) s).seqI = .ok xs s := rfl
@[simp] theorem seqI_tuple (xs : List D) (s : Sto) : (R.ok (.d (.tuple xs)) s).seqI = .ok xs s := rfl
@[simp] theorem iSeq_eq (e : EE) (env : Ev) (st : Sto) : iSeq e env st = (e env st).seqI := rfl
def R.rangeI (r : R (List Val)) : R (List D) := r.bind fun vs s => match vs with
  | [.d (.int n)] => if -(2 ^ 62) ≤ n ∧ n ≤ 1000000 then .ok ((List.range n.toNat).map fun k => PyData.int (0 + (k : Nat))) s else .bad
  | _ => .bad
@[simp] theorem rangeI_ok (n : Int) (s : Sto) : (R.ok [.d (.int n)] s).rangeI = if -(2 ^ 62) ≤ n ∧ n ≤ 1000000 then .ok ((List.range n.toNat).map fun k => PyData.int (0 + (k : Nat))) s else .bad := rfl
@[simp] theorem iRange_eq (a : EA) (env : Ev) (st : Sto) : iRange a env st = (a env st).rangeI := rfl
def R.forS (r : R (List D)) (tg : Tg) (body : ES) (env : Ev) : R Fl := r.bindS env fun xs s => forL tg body xs env s
@[simp] theorem forS_ok (xs : List D) (s : Sto) (tg : Tg) (body : ES) (env : Ev) : (R.ok xs s).forS tg body env = forL tg body xs env s := rfl
@[simp] theorem sFor_eq (tg : Tg) (ei : EI) (body : ES) (env : Ev) (st : Sto) : sFor tg ei body env st = (ei env st).forS tg body env := rfl
def R.slS3 (r : R (Option Int)) (x : Val) (l : Option Int) : R Val := r.bind fun h s => R.of (vSl x l h s)
def R.slS2 (r : R (Option Int)) (x : Val) (hi : EO) (env : Ev) : R Val := r.bind fun l s => (hi env s).slS3 x l
def R.slS1 (r : R Val) (lo hi : EO) (env : Ev) : R Val := r.bind fun x s => (lo env s).slS2 x hi env
@[simp] theorem slS3_ok (h : Option Int) (s : Sto) (x : Val) (l : Option Int) : (R.ok h s).slS3 x l = R.of (vSl x l h s) := rfl
@[simp] theorem slS2_ok (l : Option Int) (s : Sto) (x : Val) (hi : EO) (env : Ev) : (R.ok l s).slS2 x hi env = (hi env s).slS3 x l := rfl
@[simp] theorem slS1_ok (x : Val) (s : Sto) (lo hi : EO) (env : Ev) : (R.ok x s).slS1 lo hi env = (lo env s).slS2 x hi env := rfl
@[simp] theorem eSl_eq (a : EE) (lo hi : EO) (env : Ev) (st : Sto) : eSl a lo hi env st = (a env st).slS1 lo hi env := rfl
@[simp] theorem oNone_eq (env : Ev) (st : Sto) : oNone env st = .ok none st := rfl
def R.oS (r : R Val) : R (Option Int) := r.bind fun v s => match v with
  | .d (.int i) => .ok (some i) s
  | _ => .bad
@[simp] theorem oS_ok (i : Int) (s : Sto) : (R.ok (.d (.int i)) s).oS = .ok (some i) s := rfl
@[simp] theorem oSome_eq (a : EE) (env : Ev) (st : Sto) : oSome a env st = (a env st).oS := rfl
def R.setTS (r : R Val) (env : Ev) (tg : Tg) : R Fl := r.bindS env fun v s => match v with
  | .d d => (match tg.put d env with
    | some env' => .ok (.nx env') s
    | none => .bad)
  | _ => .bad
@[simp] theorem setTS_ok (d : D) (s : Sto) (env : Ev) (tg : Tg) : (R.ok (.d d) s).setTS env tg = match tg.put d env with
    | some env' => .ok (.nx env') s
    | none => .bad := rfl
@[simp] theorem sSetT_eq (tg : Tg) (e : EE) (env : Ev) (st : Sto) : sSetT tg e env st = (e env st).setTS env tg := rfl
def R.starS (r : R Val) (env : Ev) (i j : Nat) : R Fl := r.bindS env fun v s => match v with
  | .d (.tuple (x :: xs)) => .ok (.nx ((env.set i (some (.d x))).set j (some (.d (.list xs))))) s
  | _ => .bad
@[simp] theorem starS_ok (x : D) (xs : List D) (s : Sto) (env : Ev) (i j : Nat) : (R.ok (.d (.tuple (x :: xs))) s).starS env i j = .ok (.nx ((env.set i (some (.d x))).set j (some (.d (.list xs))))) s := rfl
@[simp] theorem sStar_eq (i j : Nat) (e : EE) (env : Ev) (st : Sto) : sStar i j e env st = (e env st).starS env i j := rfl
def R.app2 (r : R Val) (i : Nat) : R Val := r.bind fun u s2 => (match toD u s2 with
      | some (x, s3) => (match s3[i]? with
        | some (.lst xs) => if xs.length < 1000000 then .ok (.d .none) (s3.set i (.lst (xs ++ [x]))) else .bad
        | _ => .bad)
      | none => .bad)
def R.app1 (r : R Val) (a : EE) (env : Ev) : R Val := r.bind fun v s1 => match v with
  | .r i => (match s1[i]? with
    | some (.lst _) => (a env s1).app2 i
    | _ => .bad)
  | _ => .bad
@[simp] theorem app2_ok (x : D) (s : Sto) (i : Nat) : (R.ok (.d x) s).app2 i = match s[i]? with
        | some (.lst xs) => if xs.length < 1000000 then .ok (.d .none) (s.set i (.lst (xs ++ [x]))) else .bad
        | _ => .bad := rfl
@[simp] theorem app1_ok (i : Nat) (s : Sto) (a : EE) (env : Ev) : (R.ok (.r i) s).app1 a env = match s[i]? with
    | some (.lst _) => (a env s).app2 i
    | _ => .bad := rfl
@[simp] theorem eAppend_eq (o a : EE) (env : Ev) (st : Sto) : eAppend o a env st = (o env st).app1 a env := rfl
def R.negE (r : R Val) : R Val := r.bind fun v s => match v with
  | .d (.int i) => .ok (.d (.int (-i))) s
  | _ => .bad
@[simp] theorem negE_ok (i : Int) (s : Sto) : (R.ok (.d (.int i)) s).negE = .ok (.d (.int (-i))) s := rfl
@[simp] theorem eNeg_eq (a : EE) (env : Ev) (st : Sto) : eNeg a env st = (a env st).negE := rfl
def R.fin0 (r : R Fl) (n : Nat) : R Val := match r with
    | .ok (.nx _) s => fin n (.d .none) s
    | .ok (.rt v) s => fin n v s
    | .ok (.ex e _) s => if insOk n (s.take n) = true then .exc e (s.take n) else .bad
    | _ => .bad
@[simp] theorem fin0_nx (e : Ev) (s : Sto) (n : Nat) : (R.ok (.nx e) s).fin0 n = fin n (.d .none) s := rfl
@[simp] theorem fin0_rt (v : Val) (s : Sto) (n : Nat) : (R.ok (.rt v) s).fin0 n = fin n v s := rfl
theorem runF_eq (N np : Nat) (ev : ES) (as : List Val) (st : Sto) (h : as.length = np) : runF N np ev as st = (ev (as.map some ++ List.replicate (N - np) none) st).fin0 st.length := by
  unfold runF
  rw [if_pos h]; rfl
@[simp] theorem noX_ok {α : Type} (a : α) (s : Sto) : noX (R.ok a s) = R.ok a s := rfl
end
/-- no objects of own classes in the store -/
def Okk (st : Sto) : Prop := insOk st.length st = true
@[simp] theorem fin_d (st : Sto) (h : Okk st) (x : D) : fin st.length (.d x) st = .ok (.d x) st := by
  unfold fin
  rw [List.take_length, if_pos (show insOk _ _ = true from h)]
theorem insOk_mono {n k : Nat} (h : n ≤ k) : ∀ {st : Sto}, insOk n st = true → insOk k st = true
  | [], _ => rfl
  | .lst _ :: r, q => insOk_mono h (st := r) q
  | .dK _ :: r, q => insOk_mono h (st := r) q
  | .dN _ :: r, q => insOk_mono h (st := r) q
  | .dL _ :: r, q => insOk_mono h (st := r) q
  | .gone :: r, q => insOk_mono h (st := r) q
  | .ins c fs :: r, q => by
    simp only [insOk, Bool.and_eq_true, List.all_eq_true] at q ⊢
    refine ⟨fun x hx => ?_, insOk_mono h q.2⟩
    have := q.1 x hx
    split at this <;> simp_all
    omega
/-! ### words -/
@[simp] theorem w_fact_after : (("fact" : Str) == ("after" : Str)) = false := by decide +kernel
@[simp] theorem w_fact_holds : (("fact" : Str) == ("holds" : Str)) = false := by decide +kernel
@[simp] theorem w_fact_may : (("fact" : Str) == ("may" : Str)) = false := by decide +kernel
@[simp] theorem w_fact_and : (("fact" : Str) == ("and" : Str)) = false := by decide +kernel
@[simp] theorem w_fact_or : (("fact" : Str) == ("or" : Str)) = false := by decide +kernel
@[simp] theorem w_fact_not : (("fact" : Str) == ("not" : Str)) = false := by decide +kernel
@[simp] theorem w_fact_all : (("fact" : Str) == ("all" : Str)) = false := by decide +kernel
@[simp] theorem w_fact_common : (("fact" : Str) == ("common" : Str)) = false := by decide +kernel
@[simp] theorem w_after_fact : (("after" : Str) == ("fact" : Str)) = false := by decide +kernel
@[simp] theorem w_after_holds : (("after" : Str) == ("holds" : Str)) = false := by decide +kernel
@[simp] theorem w_after_may : (("after" : Str) == ("may" : Str)) = false := by decide +kernel
@[simp] theorem w_after_and : (("after" : Str) == ("and" : Str)) = false := by decide +kernel
@[simp] theorem w_after_or : (("after" : Str) == ("or" : Str)) = false := by decide +kernel
@[simp] theorem w_after_not : (("after" : Str) == ("not" : Str)) = false := by decide +kernel
@[simp] theorem w_after_all : (("after" : Str) == ("all" : Str)) = false := by decide +kernel
@[simp] theorem w_after_common : (("after" : Str) == ("common" : Str)) = false := by decide +kernel
@[simp] theorem w_holds_fact : (("holds" : Str) == ("fact" : Str)) = false := by decide +kernel
@[simp] theorem w_holds_after : (("holds" : Str) == ("after" : Str)) = false := by decide +kernel
@[simp] theorem w_holds_may : (("holds" : Str) == ("may" : Str)) = false := by decide +kernel
@[simp] theorem w_holds_and : (("holds" : Str) == ("and" : Str)) = false := by decide +kernel
@[simp] theorem w_holds_or : (("holds" : Str) == ("or" : Str)) = false := by decide +kernel
@[simp] theorem w_holds_not : (("holds" : Str) == ("not" : Str)) = false := by decide +kernel
@[simp] theorem w_holds_all : (("holds" : Str) == ("all" : Str)) = false := by decide +kernel
@[simp] theorem w_holds_common : (("holds" : Str) == ("common" : Str)) = false := by decide +kernel
@[simp] theorem w_may_fact : (("may" : Str) == ("fact" : Str)) = false := by decide +kernel
@[simp] theorem w_may_after : (("may" : Str) == ("after" : Str)) = false := by decide +kernel
@[simp] theorem w_may_holds : (("may" : Str) == ("holds" : Str)) = false := by decide +kernel
@[simp] theorem w_may_and : (("may" : Str) == ("and" : Str)) = false := by decide +kernel
@[simp] theorem w_may_or : (("may" : Str) == ("or" : Str)) = false := by decide +kernel
@[simp] theorem w_may_not : (("may" : Str) == ("not" : Str)) = false := by decide +kernel
@[simp] theorem w_may_all : (("may" : Str) == ("all" : Str)) = false := by decide +kernel
@[simp] theorem w_may_common : (("may" : Str) == ("common" : Str)) = false := by decide +kernel
@[simp] theorem w_and_fact : (("and" : Str) == ("fact" : Str)) = false := by decide +kernel
@[simp] theorem w_and_after : (("and" : Str) == ("after" : Str)) = false := by decide +kernel
@[simp] theorem w_and_holds : (("and" : Str) == ("holds" : Str)) = false := by decide +kernel
@[simp] theorem w_and_may : (("and" : Str) == ("may" : Str)) = false := by decide +kernel
@[simp] theorem w_and_or : (("and" : Str) == ("or" : Str)) = false := by decide +kernel
@[simp] theorem w_and_not : (("and" : Str) == ("not" : Str)) = false := by decide +kernel
@[simp] theorem w_and_all : (("and" : Str) == ("all" : Str)) = false := by decide +kernel
@[simp] theorem w_and_common : (("and" : Str) == ("common" : Str)) = false := by decide +kernel
@[simp] theorem w_or_fact : (("or" : Str) == ("fact" : Str)) = false := by decide +kernel
@[simp] theorem w_or_after : (("or" : Str) == ("after" : Str)) = false := by decide +kernel
@[simp] theorem w_or_holds : (("or" : Str) == ("holds" : Str)) = false := by decide +kernel
@[simp] theorem w_or_may : (("or" : Str) == ("may" : Str)) = false := by decide +kernel
@[simp] theorem w_or_and : (("or" : Str) == ("and" : Str)) = false := by decide +kernel
@[simp] theorem w_or_not : (("or" : Str) == ("not" : Str)) = false := by decide +kernel
@[simp] theorem w_or_all : (("or" : Str) == ("all" : Str)) = false := by decide +kernel
@[simp] theorem w_or_common : (("or" : Str) == ("common" : Str)) = false := by decide +kernel
@[simp] theorem w_not_fact : (("not" : Str) == ("fact" : Str)) = false := by decide +kernel
@[simp] theorem w_not_after : (("not" : Str) == ("after" : Str)) = false := by decide +kernel
@[simp] theorem w_not_holds : (("not" : Str) == ("holds" : Str)) = false := by decide +kernel
@[simp] theorem w_not_may : (("not" : Str) == ("may" : Str)) = false := by decide +kernel
@[simp] theorem w_not_and : (("not" : Str) == ("and" : Str)) = false := by decide +kernel
@[simp] theorem w_not_or : (("not" : Str) == ("or" : Str)) = false := by decide +kernel
@[simp] theorem w_not_all : (("not" : Str) == ("all" : Str)) = false := by decide +kernel
@[simp] theorem w_not_common : (("not" : Str) == ("common" : Str)) = false := by decide +kernel
@[simp] theorem w_all_fact : (("all" : Str) == ("fact" : Str)) = false := by decide +kernel
@[simp] theorem w_all_after : (("all" : Str) == ("after" : Str)) = false := by decide +kernel
@[simp] theorem w_all_holds : (("all" : Str) == ("holds" : Str)) = false := by decide +kernel
@[simp] theorem w_all_may : (("all" : Str) == ("may" : Str)) = false := by decide +kernel
@[simp] theorem w_all_and : (("all" : Str) == ("and" : Str)) = false := by decide +kernel
@[simp] theorem w_all_or : (("all" : Str) == ("or" : Str)) = false := by decide +kernel
@[simp] theorem w_all_not : (("all" : Str) == ("not" : Str)) = false := by decide +kernel
@[simp] theorem w_all_common : (("all" : Str) == ("common" : Str)) = false := by decide +kernel
@[simp] theorem w_common_fact : (("common" : Str) == ("fact" : Str)) = false := by decide +kernel
@[simp] theorem w_common_after : (("common" : Str) == ("after" : Str)) = false := by decide +kernel
@[simp] theorem w_common_holds : (("common" : Str) == ("holds" : Str)) = false := by decide +kernel
@[simp] theorem w_common_may : (("common" : Str) == ("may" : Str)) = false := by decide +kernel
@[simp] theorem w_common_and : (("common" : Str) == ("and" : Str)) = false := by decide +kernel
@[simp] theorem w_common_or : (("common" : Str) == ("or" : Str)) = false := by decide +kernel
@[simp] theorem w_common_not : (("common" : Str) == ("not" : Str)) = false := by decide +kernel
@[simp] theorem w_common_all : (("common" : Str) == ("all" : Str)) = false := by decide +kernel
@[simp] theorem eqv_int (i j : Int) : PyData.eqv (.int i) (.int j) = (i == j) := rfl
@[simp] theorem eqv_str (i j : Str) : PyData.eqv (.str i) (.str j) = (i == j) := rfl
@[simp] theorem eqv_tn (xs : List D) : PyData.eqv (.tuple xs) .none = false := rfl
@[simp] theorem eqv_t0 (x : D) (xs : List D) : PyData.eqv (.tuple (x :: xs)) (.tuple []) = false := rfl
@[simp] theorem fits_int (i j : Int) : fits (.int i) (.int j) = true := by simp [fits, PyData.plain, PyData.depth]
@[simp] theorem fits_str (i j : Str) : fits (.str i) (.str j) = true := by simp [fits, PyData.plain, PyData.depth]
@[simp] theorem plain_int (i : Int) : PyData.plain (.int i) = true := rfl
@[simp] theorem plain_str (i : Str) : PyData.plain (.str i) = true := rfl
@[simp] theorem plain_tup (xs : List D) : PyData.plain (.tuple xs) = PyData.plainAll xs := rfl
@[simp] theorem plain_lst (xs : List D) : PyData.plain (.list xs) = PyData.plainAll xs := rfl
@[simp] theorem plainAll_nil : PyData.plainAll [] = true := rfl
@[simp] theorem plainAll_cons (x : D) (xs : List D) : PyData.plainAll (x :: xs) = (PyData.plain x && PyData.plainAll xs) := rfl
@[simp] theorem depth_int (x : Int) : PyData.depth (.int x) = 0 := rfl
@[simp] theorem depth_str (x : Str) : PyData.depth (.str x) = 0 := rfl
@[simp] theorem depth_non : PyData.depth .none = 0 := rfl
@[simp] theorem depth_bool (x : Bool) : PyData.depth (.bool x) = 0 := rfl
@[simp] theorem plain_non : PyData.plain .none = true := rfl
@[simp] theorem plain_bool (x : Bool) : PyData.plain (.bool x) = true := rfl
@[simp] theorem depth_tup0 : PyData.depth (.tuple []) = 1 := rfl
end Mi
end

section
set_option maxRecDepth 100000
set_option autoImplicit false
namespace Mi
open PySem PySem.Spec L2
def R.zipI (r : R (List Val)) : R (List D) := r.bind fun vs s => match zipOf vs with
  | some xs => .ok xs s
  | none => .bad
@[simp] theorem zipI_tup (xs ys : List D) (s : Sto) : (R.ok [.d (.tuple xs), .d (.tuple ys)] s).zipI = .ok (zipD xs ys) s := rfl
@[simp] theorem zipI_lst (xs ys : List D) (s : Sto) : (R.ok [.d (.list xs), .d (.list ys)] s).zipI = .ok (zipD xs ys) s := rfl
@[simp] theorem iZip_eq (a : EA) (env : Ev) (st : Sto) : iZip a env st = (a env st).zipI := rfl
def R.lc2D (r : R (List D)) : R Val := r.bind fun ds s2 => if small ds.length = true then .ok (.d (.list ds)) s2 else .bad
@[simp] theorem lc2D_ok (ds : List D) (s : Sto) : (R.ok ds s).lc2D = if small ds.length = true then .ok (.d (.list ds)) s else .bad := rfl
def R.lc2E (r : R (List D)) (vs vs1 : List Nat) (tg : Tg) (tt : ET) (tg1 : Tg) (ei1 : EI) (tt1 : ET) (ee : EE) (env : Ev) : R Val := r.bind fun xs s => (compL2 tg tt ei1 vs1 tg1 tt1 ee (wipeE env vs) xs s).lc2D
@[simp] theorem lc2E_ok (xs : List D) (s : Sto) (vs vs1 : List Nat) (tg : Tg) (tt : ET) (tg1 : Tg) (ei1 : EI) (tt1 : ET) (ee : EE) (env : Ev) : (R.ok xs s).lc2E vs vs1 tg tt tg1 ei1 tt1 ee env = (compL2 tg tt ei1 vs1 tg1 tt1 ee (wipeE env vs) xs s).lc2D := rfl
@[simp] theorem eLc2_eq (vs vs1 : List Nat) (tg : Tg) (ei : EI) (tt : ET) (tg1 : Tg) (ei1 : EI) (tt1 : ET) (ee : EE) (env : Ev) (st : Sto) : eLc2 vs vs1 tg ei tt tg1 ei1 tt1 ee env st = (ei env st).lc2E vs vs1 tg tt tg1 ei1 tt1 ee env := rfl
theorem boolsOf_mp {α : Type} (f : α → Bool) : ∀ xs : List α, boolsOf (xs.map fun x => PyData.bool (f x)) = some (xs.map f)
  | [] => rfl
  | x :: xs => by simp [boolsOf, boolsOf_mp f xs]
theorem intsOf_mp {α : Type} (f : α → Int) : ∀ xs : List α, intsOf (xs.map fun x => PyData.int (f x)) = some (xs.map f)
  | [] => rfl
  | x :: xs => by simp [intsOf, intsOf_mp f xs]
@[simp] theorem cut_1 {α : Type} (xs : List α) : cut xs (some 1) none = xs.drop 1 := by
  have h : HT.sIx xs.length 0 (some 1) = min 1 xs.length := rfl
  unfold cut
  rw [h]
  cases xs with
  | nil => rfl
  | cons x xs => simp [HT.sIx]
@[simp] theorem small_le (n : Nat) (h : n ≤ 1000000) : small n = true := by simp [small, h]
/-- the same over mirrors: each thing's data, and what becomes of it -/
theorem compL_mp {α : Type} {tg : Tg} {tt : ET} {ee : EE} {env : Ev} {st : Sto} (f g : α → D) : ∀ (xs : List α), (∀ x ∈ xs, ∃ e1, tg.put (f x) env = some e1 ∧ tt e1 st = .ok true st ∧ ee e1 st = .ok (.d (g x)) st) → compL tg tt ee env (xs.map f) st = .ok (xs.map g) st
  | [], _ => rfl
  | x :: xs, h => by
    obtain ⟨e1, h1, h2, h3⟩ := h x List.mem_cons_self
    have ih := compL_mp f g xs fun y hy => h y (List.mem_cons_of_mem _ hy)
    simp [compL, h1, h2, h3, toD, ih]
theorem compL_fl {α : Type} {tg : Tg} {tt : ET} {ee : EE} {env : Ev} {st : Sto} (f : α → D) (p : α → Bool) (g : α → D) : ∀ (xs : List α), (∀ x ∈ xs, ∃ e1, tg.put (f x) env = some e1 ∧ tt e1 st = .ok (p x) st ∧ (p x = true → ee e1 st = .ok (.d (g x)) st)) → compL tg tt ee env (xs.map f) st = .ok ((xs.filter p).map g) st
  | [], _ => rfl
  | x :: xs, h => by
    obtain ⟨e1, h1, h2, h3⟩ := h x List.mem_cons_self
    have ih := compL_fl f p g xs fun y hy => h y (List.mem_cons_of_mem _ hy)
    cases hp : p x with
    | false => simp [compL, h1, h2, hp, ih]
    | true => simp [compL, h1, h2, hp, h3 hp, toD, ih]
theorem compL2_mp {α : Type} {tg tg1 : Tg} {tt tt1 : ET} {ei1 : EI} {vs1 : List Nat} {ee : EE} {env : Ev} {st : Sto} (f : α → D) (g : α → List D) : ∀ (xs : List α), (∀ x ∈ xs, ∃ e1 ys, tg.put (f x) env = some e1 ∧ tt e1 st = .ok true st ∧ ei1 e1 st = .ok ys st ∧ compL tg1 tt1 ee (wipeE e1 vs1) ys st = .ok (g x) st) → compL2 tg tt ei1 vs1 tg1 tt1 ee env (xs.map f) st = .ok (xs.flatMap g) st
  | [], _ => rfl
  | x :: xs, h => by
    obtain ⟨e1, ys, h1, h2, h3, h4⟩ := h x List.mem_cons_self
    have ih := compL2_mp f g xs fun y hy => h y (List.mem_cons_of_mem _ hy)
    simp [compL2, h1, h2, h3, h4, ih, R.bind]
theorem bAll_mp {α : Type} (f : α → Bool) (xs : List α) (st : Sto) : bAll [.d (.list (xs.map fun x => .bool (f x)))] st = some (.d (.bool (xs.all f)), st) := by
  simp only [bAll, lsOf, boolsOf_mp, Option.map_some, List.all_map]
  rfl
theorem zipD_mp {α β : Type} (f : α → D) (g : β → D) : ∀ (l : List α) (r : List β), zipD (l.map f) (r.map g) = (l.zip r).map fun p => .tuple [f p.1, g p.2]
  | [], _ => rfl
  | a :: l, [] => rfl
  | a :: l, b :: r => by
    have := zipD_mp f g l r
    simp only [zipD] at this
    simp [zipD, this]
end Mi
end

section
set_option maxRecDepth 100000
set_option autoImplicit false
namespace Mi
open PySem PySem.Spec L2
/-! ### step equations for dicts and sorted things -/
@[simp] theorem eDNewK_eq (env : Ev) (st : Sto) : eDNewK env st = .ok (.r st.length) (st ++ [.dK []]) := rfl
@[simp] theorem eDNewN_eq (env : Ev) (st : Sto) : eDNewN env st = .ok (.r st.length) (st ++ [.dN []]) := rfl
def dputF (v x y : Val) (env : Ev) (s3 : Sto) : R Fl := match x, y, toD v s3 with
  | .r j, .d kd, some (d, s4) => (match s4[j]? with
    | some (.dK ps) => (match kd with
      | .int i => if ps.length < 1000000 then .ok (.nx env) (s4.set j (.dK (kPut ps i d))) else .bad
      | _ => .bad)
    | some (.dN ps) => (match kd with
      | .tuple xs => (match nk (.tuple xs) with
        | some k => if k.depth ≤ 8 ∧ ps.length < 1000000 then .ok (.nx env) (s4.set j (.dN (nPut ps k (.tuple xs) d))) else .bad
        | none => .bad)
      | _ => .bad)
    | _ => .bad)
  | _, _, _ => .bad
def R.dput3 (r : R Val) (v x : Val) (env : Ev) : R Fl := r.bindS env fun y s3 => dputF v x y env s3
def R.dput2 (r : R Val) (v : Val) (ei : EE) (env : Ev) : R Fl := r.bindS env fun x s2 => (ei env s2).dput3 v x env
def R.dput1 (r : R Val) (eo ei : EE) (env : Ev) : R Fl := r.bindS env fun v s1 => (eo env s1).dput2 v ei env
@[simp] theorem dput3_ok (y : Val) (s : Sto) (v x : Val) (env : Ev) : (R.ok y s).dput3 v x env = dputF v x y env s := rfl
@[simp] theorem dput2_ok (x : Val) (s : Sto) (v : Val) (ei : EE) (env : Ev) : (R.ok x s).dput2 v ei env = (ei env s).dput3 v x env := rfl
@[simp] theorem dput1_ok (v : Val) (s : Sto) (eo ei : EE) (env : Ev) : (R.ok v s).dput1 eo ei env = (eo env s).dput2 v ei env := rfl
@[simp] theorem sDPut_eq (eo ei ev : EE) (env : Ev) (st : Sto) : sDPut eo ei ev env st = (ev env st).dput1 eo ei env := rfl
def R.srt (r : R (List D)) : R Val := r.bind srtD
@[simp] theorem srt_ok (ds : List D) (s : Sto) : (R.ok ds s).srt = srtD ds s := rfl
def R.sc2E (r : R (List D)) (vs vs1 : List Nat) (tg : Tg) (tt : ET) (tg1 : Tg) (ei1 : EI) (tt1 : ET) (ee : EE) (env : Ev) : R Val := r.bind fun xs s => (compL2 tg tt ei1 vs1 tg1 tt1 ee (wipeE env vs) xs s).srt
@[simp] theorem sc2E_ok (xs : List D) (s : Sto) (vs vs1 : List Nat) (tg : Tg) (tt : ET) (tg1 : Tg) (ei1 : EI) (tt1 : ET) (ee : EE) (env : Ev) : (R.ok xs s).sc2E vs vs1 tg tt tg1 ei1 tt1 ee env = (compL2 tg tt ei1 vs1 tg1 tt1 ee (wipeE env vs) xs s).srt := rfl
@[simp] theorem eSortSc2_eq (vs vs1 : List Nat) (tg : Tg) (ei : EI) (tt : ET) (tg1 : Tg) (ei1 : EI) (tt1 : ET) (ee : EE) (env : Ev) (st : Sto) : eSortSc2 vs vs1 tg ei tt tg1 ei1 tt1 ee env st = (ei env st).sc2E vs vs1 tg tt tg1 ei1 tt1 ee env := rfl
def R.dcd (r : R (List (Int × D))) : R Val := r.bind fun ds s2 => .ok (.d (.dict (ds.map fun p => (.int p.1, p.2)))) s2
def R.dcr (r : R (List (Int × D))) : R Val := r.bind fun ds s2 => .ok (.r s2.length) (s2 ++ [.dK ds])
@[simp] theorem dcd_ok (ds : List (Int × D)) (s : Sto) : (R.ok ds s).dcd = .ok (.d (.dict (ds.map fun p => (.int p.1, p.2)))) s := rfl
@[simp] theorem dcr_ok (ds : List (Int × D)) (s : Sto) : (R.ok ds s).dcr = .ok (.r s.length) (s ++ [.dK ds]) := rfl
def R.dcFE (r : R (List D)) (vs : List Nat) (tg : Tg) (tt : ET) (ek ee : EE) (env : Ev) : R Val := r.bind fun xs s => if small xs.length = true then (compD tg tt ek ee (wipeE env vs) xs [] s).dcd else .bad
def R.dcRE (r : R (List D)) (vs : List Nat) (tg : Tg) (tt : ET) (ek ee : EE) (env : Ev) : R Val := r.bind fun xs s => if small xs.length = true then (compD tg tt ek ee (wipeE env vs) xs [] s).dcr else .bad
@[simp] theorem dcFE_ok (xs : List D) (s : Sto) (vs : List Nat) (tg : Tg) (tt : ET) (ek ee : EE) (env : Ev) : (R.ok xs s).dcFE vs tg tt ek ee env = if small xs.length = true then (compD tg tt ek ee (wipeE env vs) xs [] s).dcd else .bad := rfl
@[simp] theorem dcRE_ok (xs : List D) (s : Sto) (vs : List Nat) (tg : Tg) (tt : ET) (ek ee : EE) (env : Ev) : (R.ok xs s).dcRE vs tg tt ek ee env = if small xs.length = true then (compD tg tt ek ee (wipeE env vs) xs [] s).dcr else .bad := rfl
@[simp] theorem eDcF_eq (vs : List Nat) (tg : Tg) (ei : EI) (tt : ET) (ek ee : EE) (env : Ev) (st : Sto) : eDcF vs tg ei tt ek ee env st = (ei env st).dcFE vs tg tt ek ee env := rfl
@[simp] theorem eDcR_eq (vs : List Nat) (tg : Tg) (ei : EI) (tt : ET) (ek ee : EE) (env : Ev) (st : Sto) : eDcR vs tg ei tt ek ee env st = (ei env st).dcRE vs tg tt ek ee env := rfl
def R.popE (r : R Val) : R Val := r.bind fun v s => match v with
  | .r i => (match s[i]? with
    | some (.lst xs) => (match xs[xs.length - 1]? with
      | some y => .ok (.d y) (s.set i (.lst xs.dropLast))
      | none => .bad)
    | _ => .bad)
  | _ => .bad
@[simp] theorem popE_ok (i : Nat) (s : Sto) : (R.ok (.r i) s).popE = match s[i]? with
    | some (.lst xs) => (match xs[xs.length - 1]? with
      | some y => .ok (.d y) (s.set i (.lst xs.dropLast))
      | none => .bad)
    | _ => .bad := rfl
@[simp] theorem ePop_eq (eo : EE) (env : Ev) (st : Sto) : ePop eo env st = (eo env st).popE := rfl
def R.ext2 (r : R Val) (i : Nat) : R Val := r.bind fun u s2 => (match lsOf u s2 with
      | some ys => (match s2[i]? with
        | some (.lst xs) => if xs.length + ys.length ≤ 1000000 then .ok (.d .none) (s2.set i (.lst (xs ++ ys))) else .bad
        | _ => .bad)
      | none => .bad)
def R.ext1 (r : R Val) (ea : EE) (env : Ev) : R Val := r.bind fun v s1 => match v with
  | .r i => (match s1[i]? with
    | some (.lst _) => (ea env s1).ext2 i
    | _ => .bad)
  | _ => .bad
@[simp] theorem ext2_ok (u : Val) (s2 : Sto) (i : Nat) : (R.ok u s2).ext2 i = match lsOf u s2 with
      | some ys => (match s2[i]? with
        | some (.lst xs) => if xs.length + ys.length ≤ 1000000 then .ok (.d .none) (s2.set i (.lst (xs ++ ys))) else .bad
        | _ => .bad)
      | none => .bad := rfl
@[simp] theorem ext1_ok (i : Nat) (s1 : Sto) (ea : EE) (env : Ev) : (R.ok (.r i) s1).ext1 ea env = match s1[i]? with
    | some (.lst _) => (ea env s1).ext2 i
    | _ => .bad := rfl
@[simp] theorem eExtend_eq (eo ea : EE) (env : Ev) (st : Sto) : eExtend eo ea env st = (eo env st).ext1 ea env := rfl
def R.lrg (r : R Val) : R Val := r.bind fun v s => match v with
  | .d (.int n) => if -(2 ^ 60) ≤ n ∧ n ≤ 1000000 then .ok (.d (.list (rngD 0 n.toNat))) s else .bad
  | _ => .bad
@[simp] theorem lrg_ok (n : Int) (s : Sto) : (R.ok (.d (.int n)) s).lrg = if -(2 ^ 60) ≤ n ∧ n ≤ 1000000 then .ok (.d (.list (rngD 0 n.toNat))) s else .bad := rfl
@[simp] theorem eListRg_eq (ea : EE) (env : Ev) (st : Sto) : eListRg ea env st = (ea env st).lrg := rfl
def R.keysI (r : R Val) : R (List D) := r.bind fun v s => match v with
  | .d (.dict kvs) => (match dcD kvs with
    | some (.k ps) => .ok (ps.map fun p => .int p.1) s
    | _ => .bad)
  | _ => .bad
@[simp] theorem iKeys_eq (e : EE) (env : Ev) (st : Sto) : iKeys e env st = (e env st).keysI := rfl
def R.frzE (r : R Val) : R Val := r.bind fun v s => match v with
  | .r j => (match s[j]? with
    | some (.dK ps) => .ok (.d (.dict (ps.map fun p => (.int p.1, p.2)))) (s.set j .gone)
    | some (.dN ps) => .ok (.d (.dict ((.none, .none) :: ps))) (s.set j .gone)
    | _ => .bad)
  | _ => .bad
@[simp] theorem frzE_ok (j : Nat) (s : Sto) : (R.ok (.r j) s).frzE = match s[j]? with
    | some (.dK ps) => .ok (.d (.dict (ps.map fun p => (.int p.1, p.2)))) (s.set j .gone)
    | some (.dN ps) => .ok (.d (.dict ((.none, .none) :: ps))) (s.set j .gone)
    | _ => .bad := rfl
@[simp] theorem eFrz_eq (e : EE) (env : Ev) (st : Sto) : eFrz e env st = (e env st).frzE := rfl
def R.ssE (r : R Val) : R Val := r.bind fun v s => match sqOf v s with
  | some xs => srtD xs s
  | none => .bad
@[simp] theorem ssE_ok (v : Val) (s : Sto) : (R.ok v s).ssE = match sqOf v s with
  | some xs => srtD xs s
  | none => .bad := rfl
@[simp] theorem eSortSet_eq (ea : EE) (env : Ev) (st : Sto) : eSortSet ea env st = (ea env st).ssE := rfl
def R.range2I (r : R (List Val)) : R (List D) := r.bind fun vs s => match vs with
  | [.d (.int i), .d (.int j)] => if -(2 ^ 60) ≤ i ∧ i < 2 ^ 60 ∧ -(2 ^ 60) ≤ j ∧ j < 2 ^ 60 then .ok (rngD i (j - i).toNat) s else .bad
  | _ => .bad
@[simp] theorem range2I_ok (i j : Int) (s : Sto) : (R.ok [.d (.int i), .d (.int j)] s).range2I = if -(2 ^ 60) ≤ i ∧ i < 2 ^ 60 ∧ -(2 ^ 60) ≤ j ∧ j < 2 ^ 60 then .ok (rngD i (j - i).toNat) s else .bad := rfl
@[simp] theorem iRange2_eq (a : EA) (env : Ev) (st : Sto) : iRange2 a env st = (a env st).range2I := rfl
/-! dicts read -/
end Mi
end

section
set_option maxRecDepth 100000
set_option maxHeartbeats 2000000
set_option autoImplicit false
namespace Mi
open PySem PySem.Spec PyProof.Rows L2
/-! ### __init__ of the two classes that have one -/
structure InitOk (cl : Nat → Addr) (P : Program) (w : World) (K : PySem.W.Frag) (mg : Str → Option Value) (base : Heap) (j : Nat) (f : Str) : Prop where
  ok : ∃ (fI : Addr) (fd : FuncData) (ps : List Str), PySem.W.findIn K (.ref (cl j)) "__init__" = some (some (.ref fI)) ∧ PySem.W.typeIn K (.ref fI) = some (.type "function") ∧ FnOk P w K mg base (L2N.CX P w) 1 fI fd ps (spI K f) ∧ Binds K fd ps []
section
variable {cl : Nat → Addr} {X : Cx} {W : WX} {pos p p2 p3 : Pos} {x f : Str} {e : Expr} {ee : EE}
end
/-! ### _law_which -/
abbrev isX (A0 : Addr) (d : Option Addr) (j c : Nat) : EE := eIsX A0 d (isSub j c) (eVar 0)
def mWh (A0 : Addr) (d : Option Addr) (j : Nat) : ES :=
  sSeq (sSet 1 (eLstR (aCons (isX A0 d j 1) (aCons (isX A0 d j 2) (aCons (isX A0 d j 3) (aCons (isX A0 d j 4) aNil))))))
  (sSeq (sExpr (eExtend (eVar 1) (eLst (aCons (isX A0 d j 5) (aCons (isX A0 d j 6) (aCons (isX A0 d j 7) (aCons (isX A0 d j 8) aNil)))))))
  (sSeq (sExpr (eExtend (eVar 1) (eLst (aCons (isX A0 d j 9) (aCons (isX A0 d j 10) (aCons (isX A0 d j 11) (aCons (isX A0 d j 12) aNil)))))))
  (sSeq (sExpr (eExtend (eVar 1) (eLst (aCons (isX A0 d j 13) (aCons (isX A0 d j 14) (aCons (isX A0 d j 15) (aCons (isX A0 d j 16) aNil)))))))
  (sSeq (sExpr (eAppend (eVar 1) (isX A0 d j 17)))
  (sSeq (sIf (kOr (eTst (eOp vNe (eCount (eVar 1) (eC (.bool true))) (eC (.int 1)))) (kNot (eTst (eIsX A0 d true (eVar 0))))) (sRet (eTup (aCons (eC (.str "refused")) (aCons (eNeg (eC (.int 1))) aNil)))) sNx)
  (sRet (eTup (aCons (eC (.str "refused")) (aCons (eIndex (eVar 1) (eC (.bool true))) aNil)))))))))
theorem isX_ok (A0 : Addr) (d : Option Addr) (b : Bool) (v : Option Val) (st : Sto) : eIsX A0 d b (eVar 0) [some (.a A0 d), v] st = .ok (.d (.bool b)) st := by
  simp [eIsX, eVar]
abbrev bL (b : Nat → Bool) : List D := [.bool (b 1), .bool (b 2), .bool (b 3), .bool (b 4), .bool (b 5), .bool (b 6), .bool (b 7), .bool (b 8), .bool (b 9), .bool (b 10), .bool (b 11), .bool (b 12), .bool (b 13), .bool (b 14), .bool (b 15), .bool (b 16), .bool (b 17)]
def whC (b : Nat → Bool) : Nat := (bL b).countP fun y => PyData.eqv y (.bool true)
def whI (b : Nat → Bool) : Option Nat := (bL b).findIdx? fun y => PyData.eqv y (.bool true)
theorem wh_gen (A0 : Addr) (d : Option Addr) (j : Nat) (st : Sto) (h : insOk st.length st = true) (z : Int) (hv : (if whC (isSub j) = 1 then (whI (isSub j)).map (fun i => ((i : Nat) : Int)) else some (-1)) = some z) : runF 2 1 (mWh A0 d j) [.a A0 d] st = .ok (.d (.tuple [.str "refused", .int z])) st := by
  have g1 : ∀ x : MO, (st ++ [x])[st.length]? = some x := fun x => by simp
  have s1 : ∀ x y : MO, (st ++ [x]).set st.length y = st ++ [y] := fun x y => by simp
  have t1 : ∀ x : MO, (st ++ [x]).take st.length = st := fun x => by simp
  have sm : small 4 = true ∧ small 2 = true ∧ small 8 = true ∧ small 12 = true := ⟨rfl, rfl, rfl, rfl⟩
  have fi : fitsIn (bL (isSub j)) (.bool true) = true := rfl
  have cn : ∀ (env : Ev) (T : Sto), env[1]? = some (some (.r st.length)) → T = st ++ [.lst (bL (isSub j))] → eCount (eVar 1) (eC (.bool true)) env T = .ok (.d (.int ((whC (isSub j) : Nat) : Int))) T := fun env T e1 e2 => by
    subst e2
    have ev : eVar 1 env (st ++ [.lst (bL (isSub j))]) = .ok (.r st.length) (st ++ [.lst (bL (isSub j))]) := by unfold eVar; rw [e1]
    unfold eCount
    rw [ev, R.bind_ok]
    simp only [lsOf, g1, eC, R.bind_ok, datOf, fi, if_true]
    rfl
  have ixx : ∀ (i : Nat) (env : Ev) (T : Sto), whI (isSub j) = some i → env[1]? = some (some (.r st.length)) → T = st ++ [.lst (bL (isSub j))] → eIndex (eVar 1) (eC (.bool true)) env T = .ok (.d (.int (i : Nat))) T := fun i env T hi e1 e2 => by
    subst e2
    have ev : eVar 1 env (st ++ [.lst (bL (isSub j))]) = .ok (.r st.length) (st ++ [.lst (bL (isSub j))]) := by unfold eVar; rw [e1]
    unfold whI at hi
    have s17 : small (bL (isSub j)).length = true := rfl
    unfold eIndex
    rw [ev, R.bind_ok]
    simp only [lsOf, g1, eC, R.bind_ok, datOf, fi, s17, and_self, if_true, hi]
  have ne : ∀ (n : Nat) (T : Sto), vNe (.d (.int n)) (.d (.int 1)) T = some (.d (.bool (!decide (n = 1))), T) := fun n T => by
    have : PyData.eqv (.int (n : Nat)) (.int 1) = decide (n = 1) := by
      show decide (((n : Nat) : Int) = 1) = _
      rw [decide_eq_decide]; omega
    simp only [vNe, datOf, this]; rfl
  have fz : ∀ (x : D) (T : List D), fin st.length (.d x) (st ++ [.lst T]) = .ok (.d x) st := fun x T => by unfold fin; rw [t1, if_pos h]
  rw [runF_eq 2 1 (mWh A0 d j) [.a A0 d] st rfl]
  show R.fin0 (mWh A0 d j [some (.a A0 d), none] st) st.length = _
  have ix : ∀ c v T, eIsX A0 d c (eVar 0) [some (.a A0 d), v] T = .ok (.d (.bool c)) T := fun c v T => isX_ok A0 d c v T
  simp only [mWh, isX, sSeq_eq, sSet_eq, eLstR_eq, aCons_eq, aNil_eq, ix, cons1_ok, cons2_ok, lstR_ok, toDs, toD, List.length_cons, List.length_nil, Nat.reduceAdd, sm, if_true, setS_ok, List.set_cons_succ, List.set_cons_zero, andS_nx, sExpr_eq, eExtend_eq, eVar_eq, List.getElem?_cons_succ, List.getElem?_cons_zero, getv_ok, ext1_ok, g1, eLst_eq, lstD_ok, ext2_ok, lsOf, List.cons_append, List.nil_append, s1, dropS_ok, Nat.reduceLeDiff, eAppend_eq, app1_ok, app2_ok, sIf_eq, kOr_eq, eTst_eq, eOp_eq, Nat.reduceLT]
  rw [cn _ _ rfl rfl]
  simp only [op1_ok, eC_eq, op2_ok, ne, R.of_some, tst_ok]
  by_cases hc : whC (isSub j) = 1
  · rw [if_pos hc] at hv
    cases hi : whI (isSub j) with
    | none => rw [hi] at hv; cases hv
    | some i =>
      rw [hi] at hv
      cases hv
      simp only [hc, decide_true, Bool.not_true, kor_false, kNot_eq, eTst_eq, ix, tst_ok, knot_ok, ifS_false, sNx_eq, andS_nx, sRet_eq, eTup_eq, aCons_eq, aNil_eq, eC_eq, cons1_ok]
      rw [ixx i _ _ hi rfl rfl]
      simp only [cons1_ok, aNil_eq, cons2_ok, tup_ok, toDs, toD, List.length_cons, List.length_nil, Nat.reduceAdd, sm, if_true, retS_ok, fin0_rt, fz]
  · rw [if_neg hc] at hv
    cases hv
    simp only [hc, decide_false, Bool.not_false, kor_true, ifS_true, sRet_eq, eTup_eq, aCons_eq, aNil_eq, eC_eq, cons1_ok, eNeg_eq, negE_ok, cons2_ok, tup_ok, toDs, toD, List.length_cons, List.length_nil, Nat.reduceAdd, sm, if_true, retS_ok, andS_rt, fin0_rt, fz]
theorem wh_run (A0 : Addr) (d : Option Addr) (j : Nat) (hj : j < 18) (st : Sto) (h : insOk st.length st = true) : runF 2 1 (mWh A0 d j) [.a A0 d] st = .ok (.d (whichD j)) st := by
  refine wh_gen A0 d j st h _ ?_
  have : ∀ j < 18, (if whC (isSub j) = 1 then (whI (isSub j)).map (fun i => ((i : Nat) : Int)) else some (-1)) = some (if j = 0 then -1 else (j : Int) - 1) := by decide +kernel
  exact this j hj
/-- the def, as a clause may call it -/
theorem wh_of {P : Program} {w : World} {K : PySem.W.Frag} {mg : Str → Option Value} {base : Heap} {x qual : Str} {params : Arguments} {body : List Stmt} {scope : Scope} {dvs : List V} {kws : List (Str × V)} {fa : Addr} {fd : FuncData} {cl : Nat → Addr} {y : Str}
    (F : FunD K x qual params body scope dvs kws fa fd) (S : FnScope ["e", "own"] ["e"] scope) (hm : mg y = some (.ref fa)) (hb : Binds K fd ["e"] [])
    (h : ∀ (cdv : Value) (A : Around) (outer : List Env) (s : Shared) (H : Hp) (E : XK) (a : Addr) (oe : Obj) (d : Option Addr) (j : Nat), j ∈ List.range 18 → L2N.Zn (.ref (cl j)) d oe → (∃ vs, oe.data = .fields vs) → L2H.RoomH 0 (L2H.cxH (L2N.CX P w) P w K mg base ["e", "own"] qual scope fa cdv A outer s H E (a, oe)).A →
      SSs cl (L2H.cxH (L2N.CX P w) P w K mg base ["e", "own"] qual scope fa cdv A outer s H E (a, oe)) (fun cls d _ H' => E cls d H') body (mWh a d j)) : WhOk (List.range 18) cl P w K mg base 1 y := by
  obtain ⟨oc, od, dV, kV, doc, pm, an, cdv, ct, osl, rfl, lk, hcd, _, _⟩ := F.ex
  refine ⟨fa, _, hm, F.kp, hb, fun a oe d j hj z zf => ⟨runF 2 1 (mWh a d j), fun st hs => wh_run a d j (List.mem_range.mp hj) st hs, fnX_of lk hcd S (fun vs H Q E h => ?_) fun A outer s H vs Q E hot hr hsp => ⟨_, h cdv A outer s H E a oe d j hj z zf hr, fn_sound_aux (N := ["e", "own"]) (ps := ["e"]) (by decide) hsp⟩⟩⟩
  obtain ⟨G, m, st, as, rl, ra, hl, p⟩ := h
  rw [ra.length, hl]; rfl
/-- checks of the two __init__ -/
def iniB (K : PySem.W.Frag) (j : Nat) : Bool := decide (PySem.W.findIn K (.ref (clA K j)) "__init__" = some (some (.ref (He.fAd K (xName j, some "__init__"))))) && decide (PySem.W.typeIn K (.ref (He.fAd K (xName j, some "__init__"))) = some (.type "function"))
theorem ini_of {P : Program} {w : World} {K : PySem.W.Frag} {mg : Str → Option Value} {base : Heap} {x qual f : Str} {params : Arguments} {body : List Stmt} {scope : Scope} {dvs : List V} {kws : List (Str × V)} {fd : FuncData} {j : Nat} {p1 p2 p3 p4 : Pos}
    (c : iniB K j = true) (F : FunD K x qual params body scope dvs kws (He.fAd K (xName j, some "__init__")) fd) (hbd : body = [.Assign [.Attribute (.Name "self" p1) f p2] (.Name f p3) p4]) (S : FnScope [("self" : Str), f] [("self" : Str), f] scope) (hv : (f == ("__debug__" : Str)) = false) (hc : (f == ("__classdict__" : Str)) = false) (l1 : scope.names.lookup ("self" : Str) = some .local) (l2 : scope.names.lookup f = some .local)
    (hsw : ∀ (e : Env), swapsWith (.Name f p3) (some (.Attribute (.Name "self" p1) f p2)) p4.line e = pure false) (hb : Binds K fd [("self" : Str), f] []) : InitOk (clA K) P w K mg base j f := by
  subst hbd
  unfold iniB at c
  simp only [Bool.and_eq_true, decide_eq_true_eq] at c
  exact ⟨_, fd, _, c.1, c.2, fn_init (k := 0) F S hv hc l1 l2 hsw, hb⟩
/-! ### step equations -/
def R.rai (r : R Val) (env : Ev) (j : Nat) : R Fl := r.bindS env fun v s => match v with
  | .d x => .ok (.ex ⟨j, some x⟩ env) s
  | _ => .bad
@[simp] theorem rai_ok (x : D) (s : Sto) (env : Ev) (j : Nat) : (R.ok (.d x) s).rai env j = .ok (.ex ⟨j, some x⟩ env) s := rfl
@[simp] theorem sRaise1_eq (j : Nat) (ee : EE) (env : Ev) (st : Sto) : sRaise1 j ee env st = (ee env st).rai env j := rfl
@[simp] theorem sRaise0_eq (j : Nat) (env : Ev) (st : Sto) : sRaise0 j env st = .ok (.ex ⟨j, none⟩ env) st := rfl
def R.tryS (r : R Fl) (X8 : List Nat) (i : Nat) (hs : List (Nat × HV)) : R Fl := match r with
  | .ok (.ex e env1) s => if e.cls ∈ X8 ∧ i < env1.length then (match hPick hs e s with
    | some (some x) => .ok (.rt (.d x)) s
    | some none => .bad
    | none => .ok (.ex e env1) s) else .bad
  | r => r
@[simp] theorem tryS_rt (v : Val) (s : Sto) (X8 : List Nat) (i : Nat) (hs : List (Nat × HV)) : (R.ok (.rt v) s).tryS X8 i hs = .ok (.rt v) s := rfl
@[simp] theorem tryS_nx (v : Ev) (s : Sto) (X8 : List Nat) (i : Nat) (hs : List (Nat × HV)) : (R.ok (.nx v) s).tryS X8 i hs = .ok (.nx v) s := rfl
theorem tryS_ex {e : Exn} {env : Ev} {s : Sto} {X8 : List Nat} {i : Nat} {hs : List (Nat × HV)} {x : D} (h1 : e.cls ∈ X8) (h2 : i < env.length) (h3 : hPick hs e s = some (some x)) : (R.ok (.ex e env) s).tryS X8 i hs = .ok (.rt (.d x)) s := by
  show (if e.cls ∈ X8 ∧ i < env.length then _ else _) = _
  rw [if_pos ⟨h1, h2⟩, h3]
@[simp] theorem sTry_eq (X8 : List Nat) (i : Nat) (b : ES) (hs : List (Nat × HV)) (env : Ev) (st : Sto) : sTry X8 i b hs env st = (b env st).tryS X8 i hs := by
  unfold sTry R.tryS
  cases b env st with
  | ok f s => cases f <;> rfl
  | exc e s => rfl
  | bad => rfl
theorem fin0_ex {e : Exn} {env : Ev} {s : Sto} {n : Nat} (h : insOk n (s.take n) = true) : (R.ok (.ex e env) s).fin0 n = .exc e (s.take n) := if_pos h
end Mi
end

section
set_option maxRecDepth 100000
set_option maxHeartbeats 2000000
set_option autoImplicit false
namespace Mi
open PySem PySem.Spec PyProof.Rows L2
/-! ### list(d), d a dict with keys that are tuples -/
section
variable {cl : Nat → Addr} {X : Cx}
/-! ### sorted of pairs of ints that rise already -/
end
end Mi
end

section
set_option maxRecDepth 100000
set_option maxHeartbeats 2000000
set_option autoImplicit false
namespace Mi
open PySem PySem.Spec PyProof.Rows L2
/-! ### one address less -/
def del (H : Hp) (a : Addr) : Hp := fun b => if b = a then none else H b
theorem del_same {H : Hp} {a : Addr} : del H a a = none := by unfold del; rw [if_pos rfl]
theorem del_ne {H : Hp} {a b : Addr} (h : b ≠ a) : del H a b = H b := by unfold del; rw [if_neg h]
theorem del_some {H : Hp} {a b : Addr} {o : HO} (h : del H a b = some o) : b ≠ a ∧ H b = some o := by
  by_cases e : b = a
  · subst e; rw [del_same] at h; cases h
  · rw [del_ne e] at h; exact ⟨e, h⟩
theorem del_none {H : Hp} {a b : Addr} (h : H b = none) : del H a b = none := by
  by_cases e : b = a
  · subst e; exact del_same
  · rw [del_ne e]; exact h
abbrev loc (o : Obj) : HO := .frz o (.own 0)
section
variable {P : Program} {w : World} {H : Hp} {h : Heap} {a : Addr} {o : Obj}
end
section
variable {fs : List Addr} {H H' : Hp} {h h' : Heap} {a : Addr} {o : Obj}
end
section
variable {outer : List Env} {P : Program} {w : World} {H : Hp} {s s' : Shared} {Q Q2 : VK} {u : Value} {a : Addr} {o : Obj}
end
/-! ### what stands in the frozen part without it -/
section
variable {C : RC} {G : Hp} {a : Addr} {o : Obj}
theorem Rd.del {u : HO} (ha : G a = some (loc o)) (hu : ∀ z, u ≠ .own z) (hu2 : ∀ ob z, u ≠ .frz ob (.own z)) {b : Addr} (h : Rd G b u) : Rd (del G a) b u := by
  rcases h with h | ⟨ob, h⟩
  · exact .inl (by rw [del_ne (fun e => by rw [e, ha] at h; cases h; exact hu2 _ _ rfl)]; exact h)
  · exact .inr ⟨ob, by rw [del_ne (fun e => by rw [e, ha] at h; cases h; exact hu _ rfl)]; exact h⟩
theorem SqT.del {K : PySem.W.Frag} (ha : G a = some (loc o)) {b : Addr} {xs : List V} (h : SqT K G b xs) : SqT K (Mi.del G a) b xs := by
  rcases h with h | h
  · exact .inl (Rd.del ha (fun _ e => by cases e) (fun _ _ e => by cases e) h)
  · exact .inr h
theorem SqL.del {K : PySem.W.Frag} (ha : G a = some (loc o)) {b : Addr} {xs : List V} (h : SqL K G b xs) : SqL K (Mi.del G a) b xs := by
  rcases h with h | h
  · exact .inl (Rd.del ha (fun _ e => by cases e) (fun _ _ e => by cases e) h)
  · exact .inr h
mutual
theorem Rep.del (ha : G a = some (loc o)) {d : D} {v : V} (h : Rep C G v d) : Rep C (Mi.del G a) v d := match h with
  | .non => .non
  | .bl b => .bl b
  | .int b => .int b
  | .str b => .str b
  | .lst q r => .lst (by rw [del_ne (fun e => by rw [e, ha] at q; cases q)]; exact q) (RepAll.del ha r)
  | .tup q r => .tup (SqT.del ha q) (RepAll.del ha r)
  | .dK q e r => .dK (by rw [del_ne (fun e => by rw [e, ha] at q; cases q)]; exact q) e (RepAll.del ha r)
  | .dN q e r => .dN (by rw [del_ne (fun e => by rw [e, ha] at q; unfold DictN at q; cases q)]; exact q) e (RepN.del ha r)
theorem RepN.del (ha : G a = some (loc o)) {ps : List (D × D)} {xs : List (NestedKey × Addr × Value)} (h : RepN C G ps xs) : RepN C (Mi.del G a) ps xs := match h with
  | .nil => .nil
  | .cons z b c d e r => .cons z b (Rep.del ha c) d (Rep.del ha e) (RepN.del ha r)
theorem RepAll.del (ha : G a = some (loc o)) {ds : List D} {vs : List V} (h : RepAll C G vs ds) : RepAll C (Mi.del G a) vs ds := match h with
  | .nil => .nil
  | .cons q r => .cons (Rep.del ha q) (RepAll.del ha r)
end
def notC : Val → Bool
  | .c _ _ => false
  | _ => true
theorem RepV.del {m : List Addr} (ha : G a = some (loc o)) {v : V} {x : Val} (h : RepV C G m v x) (n : notC x = true) : RepV C (Mi.del G a) m v x := by
  cases h with
  | d h => exact .d (Rep.del ha h)
  | r h => exact .r h
  | s h => exact .s (SqL.del ha h)
  | a h => exact .a fun q hq => let ⟨fs, z⟩ := h q hq; ⟨fs, by rw [del_ne (fun e => by rw [e, ha] at z; cases z)]; exact z⟩
  | c _ _ => cases n
  | f => exact .f
theorem RepVs.del {m : List Addr} (ha : G a = some (loc o)) : ∀ {vs : List V} {xs : List Val}, RepVs C G m vs xs → (∀ x ∈ xs, notC x = true) → RepVs C (Mi.del G a) m vs xs
  | _, _, .nil, _ => .nil
  | _, _, .cons h r, k => .cons (h.del ha (k _ List.mem_cons_self)) (RepVs.del ha r fun x hx => k x (List.mem_cons_of_mem _ hx))
theorem Rl.del {m : List Addr} {H : Hp} {st : Sto} (r : Rl C G m H st) (ha : G a = some (loc o)) (ok : insOk st.length st = true) : Rl C (Mi.del G a) m (Mi.del H a) st := by
  have am : a ∉ m := fun z => r.clo a z _ _ ha
  have hH := r.sub _ _ ha
  have ne : ∀ b ∈ m, b ≠ a := fun b hb e => am (e ▸ hb)
  refine ⟨fun b u e => ?_, r.len, r.nd, fun b hb => by rw [del_ne (ne b hb)]; exact r.liv b hb, fun i b u e1 e2 e3 => del_none (r.out i b u e1 e2 e3), fun i u b e1 e2 => ?_, fun j hj => ?_, fun b hb ob z e => r.clo b hb ob z (del_some e).2⟩
  · obtain ⟨e1, e2⟩ := del_some e
    rw [del_ne e1]; exact r.sub _ _ e2
  · have bm := ne b (List.mem_of_getElem? e2)
    have q := r.obj i u b e1 e2
    cases u with
    | lst xs => obtain ⟨vs, h1, h2⟩ := q; exact ⟨vs, by rw [del_ne bm]; exact h1, RepAll.del ha h2⟩
    | dK _ => obtain ⟨vs, h1, h2⟩ := q; exact ⟨vs, by rw [del_ne bm]; exact h1, RepAll.del ha h2⟩
    | dN _ => obtain ⟨vs, h1, h0, h2⟩ := q; exact ⟨vs, by rw [del_ne bm]; exact h1, h0, RepN.del ha h2⟩
    | dL _ => obtain ⟨od, vs, h1, h0, h2⟩ := q; exact ⟨od, vs, by rw [del_ne bm]; exact h1, h0, RepN.del ha h2⟩
    | gone => trivial
    | ins c fs =>
      obtain ⟨dx, vs', h1, h2, h3⟩ := q
      refine ⟨dx, vs', by rw [del_ne bm]; exact h1, h2, RepVs.del ha h3 fun x hx => ?_⟩
      obtain ⟨y, hy, e⟩ := List.mem_map.mp hx
      have := insOk_c ok e1 y hy
      rw [← e]
      cases hv : y.2 with
      | c j z => exact absurd hv (this j z)
      | _ => rfl
  · obtain ⟨ps, z1, z2, z3, z4, z5⟩ := r.tab j hj
    refine ⟨ps, by rw [del_ne (fun e => by rw [e, hH] at z1; cases z1)]; exact z1, z2, del_none z3, z4, fun pos cv hc => ?_⟩
    obtain ⟨c, y1, y2⟩ := z5 pos cv hc
    exact ⟨c, y1, by rw [del_ne (fun e => by rw [e, ha] at y2; unfold LamX.CodeO at y2; cases y2)]; exact y2⟩
end
/-! ### a lambda's promise -/
end Mi
end

section
set_option maxRecDepth 100000
set_option maxHeartbeats 2000000
set_option autoImplicit false
namespace Mi
open PySem PySem.Spec PyProof.Rows L2
/-! ### a call of a name that holds a lambda -/
def eCallV (i : Nat) (LM : Nat → FN) (er : EA) : EE := fun env st => match env[i]? with
  | some (some (.c j x)) => (er env st).bind fun vs s => noX (LM j (x :: vs) s)
  | _ => .bad
section
variable {cl : Nat → Addr} {X : Cx} {W : WX} {pos p : Pos} {e : Expr} {es : List Expr} {er : EA} {a : Str} {k i : Nat} {LM : Nat → FN}
end
/-! ### arguments with a lambda among them -/
abbrev TL := L2.St → Hp → (List V → Addr → Obj → Hp → Prop) → Prop
section
variable {X : Cx} {e : Expr} {es post : List Expr} {te : TE} {t : TL} {tp : TA} {params : Arguments} {body : Expr} {scope : Scope} {lpos : Pos} {c P : Addr}
end
inductive RepL (C : RC) (G : Hp) (m : List Addr) (f : Addr) (j : Nat) (x : Val) : List V → List Val → Prop
  | here {ws : List V} {bs : List Val} : RepVs C G m ws bs → RepL C G m f j x (.ref f :: ws) (.c j x :: bs)
  | cons {v : V} {a : Val} {vs : List V} {as : List Val} : RepV C G m v a → RepL C G m f j x vs as → RepL C G m f j x (v :: vs) (a :: as)
theorem RepL.clo {C : RC} {G G' : Hp} {m m' : List Addr} {H H' : Hp} {f : Addr} {j : Nat} {x : Val} {v0 : V} (e : Ext G m H G' m' H') (cg : CloG C G' f j v0) (rx : RepV C G' m' v0 x) : ∀ {vs : List V} {as : List Val}, RepL C G m f j x vs as → RepVs C G' m' vs as
  | _, _, .here r => .cons (.c cg rx) (r.ext e)
  | _, _, .cons h r => .cons (h.ext e) (RepL.clo e cg rx r)
def LamMade (X : Cx) (L : Lam) (of : Obj) (code : Addr) : Prop := ∃ pm ctv, of = PySem.W.kla_obj "<lambda>" (X.env.qual ++ "<lambda>") L.params L.body L.scope (cloFrom X.env.cells L.scope.names []) pm code ctv
def PostL (C : RC) (X : Cx) (L : Lam) (j i : Nat) (env : Ev) (G : Hp) (m : List Addr) (H : Hp) (Q : List V → Addr → Obj → Hp → Prop) (W : XW) : R (List Val) → Prop
  | .ok as st => ∀ vs f of code x H' G' m', Ext G m H G' m' H' → Rl C G' m' H' st → env[i]? = some (some x) → RepL C G' m' f j x vs as → LamMade X L of code → G' code = some (LamX.CodeO code (tabQ (lamT j))) → Q vs f of H'
  | .exc e st => ∀ cls d H' G' m', Ext G m H G' m' H' → Rl C G' m' H' st → ExcR C G' H' e cls d → W cls d H'
  | .bad => False
theorem PostL.ext {C : RC} {X : Cx} {L : Lam} {j i : Nat} {env : Ev} {G G1 : Hp} {m m1 : List Addr} {H H1 : Hp} {Q : List V → Addr → Obj → Hp → Prop} {W : XW} (e : Ext G m H G1 m1 H1) {x : R (List Val)} (h : PostL C X L j i env G m H Q W x) : PostL C X L j i env G1 m1 H1 Q W x := by
  cases x with
  | ok v st => exact fun vs f of code x H2 G2 m2 e2 => h vs f of code x H2 G2 m2 (e.trans e2)
  | exc v st => exact fun cls d H2 G2 m2 e2 => h cls d H2 G2 m2 (e.trans e2)
  | bad => exact h
def aLam (j i : Nat) (ep : EA) : EA := fun env st => match env[i]? with
  | some (some x) => (ep env st).bind fun ws s => .ok (.c j x :: ws) s
  | _ => .bad
section
variable {cl : Nat → Addr} {X : Cx} {W : WX} {L : Lam} {j i n k : Nat} {a e : Expr} {es post : List Expr} {ea : EE} {er ep : EA} {params : Arguments} {body : Expr} {scope : Scope} {lpos pos p : Pos}
def eLam (n : Nat) (f : FN) (ea : EA) : EE := fun env st => (ea env st).bind fun vs s => if vs.length = n then (match f vs s with
  | .ok (.d y) s' => if insOk s'.length s' = true then .ok (.d y) s' else .bad
  | _ => .bad) else .bad
end
end Mi
end

section
set_option maxRecDepth 100000
set_option maxHeartbeats 2000000
set_option autoImplicit false
namespace Mi
open PySem PySem.Spec PyProof.Rows L2
/-! ### the keys of a locked dict, tuples -/
section
variable {P : Program} {w : World} {K : PySem.W.Frag} {tg : Expr} {d : Addr} {o : Obj} {es : Array DictEntry} {ep : Nat}
end
/-- for .. in d, [.. for .. in d]: d locked -/
def iKeysL (e : EE) : EI := fun env st => (e env st).bind fun v s => match v with
  | .r j => (match s[j]? with
    | some (.dL ps) => .ok (ps.map (·.1)) s
    | _ => .bad)
  | _ => .bad
/-! ### locked while a statement runs -/
section
variable {C : RC} {G : Hp} {a : Addr} {o : Obj} {φ : Heap → Prop}
end
def sLock (i : Nat) (es : ES) : ES := fun env st => match env[i]? with
  | some (some (.r j)) => (match st[j]? with
    | some (.dN ps) => (match es env (st.set j (.dL ps)) with
      | .ok (.nx env') s => (match s[j]? with
        | some (.dL ps') => .ok (.nx env') (s.set j (.dN ps'))
        | _ => .bad)
      | _ => .bad)
    | _ => .bad)
  | _ => .bad
/-! ### d.pop(k), k a tuple that is there -/
def nDel (ps : List (D × D)) (k : NestedKey) : List (D × D) := ps.filter fun p => decide (nk p.1 ≠ some k)
def popN1 (j : Nat) (y : Val) (s2 : Sto) : R Val := match y, s2[j]? with
  | .d (.tuple xs), some (.dN ps) => (match nk (.tuple xs) with
    | some k => if k.depth ≤ 8 ∧ ps.length ≤ 1000000 then (match nFind ps k with
      | some x => .ok (.d x) (s2.set j (.dN (nDel ps k)))
      | none => .bad) else .bad
    | none => .bad)
  | _, _ => .bad
def ePopN (eo ei : EE) : EE := fun env st => (eo env st).bind fun v s1 => match v with
  | .r j => (match s1[j]? with
    | some (.dN _) => (ei env s1).bind fun y s2 => popN1 j y s2
    | _ => .bad)
  | _ => .bad
section
variable {cl : Nat → Addr} {X : Cx} {W : WX} {pos apos : Pos} {o a : Expr} {ea eb : EE}
end
end Mi
end

section
set_option maxRecDepth 100000
set_option maxHeartbeats 2000000
set_option autoImplicit false
namespace Mi
open PySem PySem.Spec L2 PyProof.Rows
/-! ### sorted({e for t in a if ..}), e an int -/
section
variable {X : Cx}
end
def eSortSc1 (vs : List Nat) (tg : Tg) (ei : EI) (tt : ET) (ee : EE) : EE := fun env st => (ei env st).bind fun xs s1 => (compL tg tt ee (wipeE env vs) xs s1).bind srtD
section
variable {cl : Nat → Addr} {X : Cx} {W : WX} {elt t a : Expr} {ifs : List Expr} {scope : Scope} {own : List (Str × Nat)} {pos p q : Pos} {tg : Tg} {ei : EI} {tt : ET} {ee : EE}
end
/-! ### name = {k: v for ..}, k a tuple, the name no cell -/
section
variable {cl : Nat → Addr} {X : Cx} {W : WX} {pos : Pos} {t a kx vx : Expr} {ifs : List Expr} {ei : EI} {tg : Tg} {tt : ET} {ek ee : EE} {scope : Scope} {own : List (Str × Nat)}
end
/-! ### a, b = a list -/
def sSetL (is : List Nat) (e : EE) : ES := fun env st => (e env st).bindS env fun v s => match v with
  | .d (.list xs) => if xs.length = is.length then .ok (.nx (setAll is xs env)) s else .bad
  | _ => .bad
end Mi
end

section
set_option maxRecDepth 100000
set_option autoImplicit false
namespace Mi
open PySem PySem.Spec L2
/-! ### step equations: lambdas, locked dicts -/
def R.cv (r : R (List Val)) (x : Option (Option Val)) (LM : Nat → FN) : R Val := match x with
  | some (some (.c j x)) => r.bind fun vs s => noX (LM j (x :: vs) s)
  | _ => .bad
@[simp] theorem eCallV_eq (i : Nat) (LM : Nat → FN) (er : EA) (env : Ev) (st : Sto) : eCallV i LM er env st = (er env st).cv env[i]? LM := by
  unfold eCallV R.cv
  cases env[i]? with
  | none => rfl
  | some v => cases v with
    | none => rfl
    | some v => cases v <;> rfl
@[simp] theorem cv_ok (vs : List Val) (s : Sto) (j : Nat) (x : Val) (LM : Nat → FN) : (R.ok vs s).cv (some (some (.c j x))) LM = noX (LM j (x :: vs) s) := rfl
def R.al (r : R (List Val)) (x : Option (Option Val)) (j : Nat) : R (List Val) := match x with
  | some (some x) => r.bind fun ws s => .ok (.c j x :: ws) s
  | _ => .bad
@[simp] theorem aLam_eq (j i : Nat) (ep : EA) (env : Ev) (st : Sto) : aLam j i ep env st = (ep env st).al env[i]? j := by
  unfold aLam R.al
  cases env[i]? with
  | none => rfl
  | some v => cases v <;> rfl
@[simp] theorem al_ok (ws : List Val) (s : Sto) (x : Val) (j : Nat) : (R.ok ws s).al (some (some x)) j = .ok (.c j x :: ws) s := rfl
def R.lamR (r : R Val) : R Val := match r with
  | .ok (.d y) s' => if insOk s'.length s' = true then .ok (.d y) s' else .bad
  | _ => .bad
def R.lm (r : R (List Val)) (n : Nat) (f : FN) : R Val := r.bind fun vs s => if vs.length = n then (f vs s).lamR else .bad
@[simp] theorem eLam_eq (n : Nat) (f : FN) (ea : EA) (env : Ev) (st : Sto) : eLam n f ea env st = (ea env st).lm n f := rfl
@[simp] theorem lm_ok' (vs : List Val) (s : Sto) (n : Nat) (f : FN) : (R.ok vs s).lm n f = if vs.length = n then (f vs s).lamR else .bad := rfl
def lockG (x : Option (Option Val)) (es : ES) (env : Ev) (st : Sto) : R Fl := match x with
  | some (some (.r j)) => (match st[j]? with
    | some (.dN ps) => (match es env (st.set j (.dL ps)) with
      | .ok (.nx env') s => (match s[j]? with
        | some (.dL ps') => .ok (.nx env') (s.set j (.dN ps'))
        | _ => .bad)
      | _ => .bad)
    | _ => .bad)
  | _ => .bad
@[simp] theorem sLock_eq (i : Nat) (es : ES) (env : Ev) (st : Sto) : sLock i es env st = lockG env[i]? es env st := by
  unfold sLock lockG
  cases env[i]? with
  | none => rfl
  | some v => cases v with
    | none => rfl
    | some v => cases v <;> rfl
def R.popN (r : R Val) (ei : EE) (env : Ev) : R Val := r.bind fun v s1 => match v with
  | .r j => (match s1[j]? with
    | some (.dN _) => (ei env s1).bind fun y s2 => popN1 j y s2
    | _ => .bad)
  | _ => .bad
@[simp] theorem ePopN_eq (eo ei : EE) (env : Ev) (st : Sto) : ePopN eo ei env st = (eo env st).popN ei env := rfl
def R.keysL (r : R Val) : R (List D) := r.bind fun v s => match v with
  | .r j => (match s[j]? with
    | some (.dL ps) => .ok (ps.map (·.1)) s
    | _ => .bad)
  | _ => .bad
@[simp] theorem iKeysL_eq (e : EE) (env : Ev) (st : Sto) : iKeysL e env st = (e env st).keysL := rfl
def R.srt1 (r : R (List D)) (vs : List Nat) (tg : Tg) (tt : ET) (ee : EE) (env : Ev) : R Val := r.bind fun xs s1 => (compL tg tt ee (wipeE env vs) xs s1).bind srtD
@[simp] theorem eSortSc1_eq (vs : List Nat) (tg : Tg) (ei : EI) (tt : ET) (ee : EE) (env : Ev) (st : Sto) : eSortSc1 vs tg ei tt ee env st = (ei env st).srt1 vs tg tt ee env := rfl
@[simp] theorem srt1_ok (xs : List D) (s : Sto) (vs : List Nat) (tg : Tg) (tt : ET) (ee : EE) (env : Ev) : (R.ok xs s).srt1 vs tg tt ee env = (compL tg tt ee (wipeE env vs) xs s).bind srtD := rfl
def R.setLS (r : R Val) (env : Ev) (is : List Nat) : R Fl := r.bindS env fun v s => match v with
  | .d (.list xs) => if xs.length = is.length then .ok (.nx (setAll is xs env)) s else .bad
  | _ => .bad
@[simp] theorem sSetL_eq (is : List Nat) (e : EE) (env : Ev) (st : Sto) : sSetL is e env st = (e env st).setLS env is := rfl
@[simp] theorem setLS_ok (xs : List D) (s : Sto) (env : Ev) (is : List Nat) : (R.ok (.d (.list xs)) s).setLS env is = if xs.length = is.length then .ok (.nx (setAll is xs env)) s else .bad := rfl
def R.lcRE (r : R (List D)) (vs : List Nat) (tg : Tg) (tt : ET) (ee : EE) (env : Ev) : R Val := r.bind fun xs s => if small xs.length = true then (compL tg tt ee (wipeE env vs) xs s).bind fun ds s2 => .ok (.r s2.length) (s2 ++ [.lst ds]) else .bad
@[simp] theorem eLcR_eq (vs : List Nat) (tg : Tg) (ei : EI) (tt : ET) (ee : EE) (env : Ev) (st : Sto) : eLcR vs tg ei tt ee env st = (ei env st).lcRE vs tg tt ee env := rfl
@[simp] theorem lcRE_ok (xs : List D) (s : Sto) (vs : List Nat) (tg : Tg) (tt : ET) (ee : EE) (env : Ev) : (R.ok xs s).lcRE vs tg tt ee env = if small xs.length = true then (compL tg tt ee (wipeE env vs) xs s).bind fun ds s2 => .ok (.r s2.length) (s2 ++ [.lst ds]) else .bad := rfl
/-- an expression that is never reached -/
def eNever : EE := fun _ _ => .bad
@[simp] theorem eNever_eq (env : Ev) (st : Sto) : eNever env st = .bad := rfl
end Mi
end

section
set_option maxRecDepth 100000
set_option autoImplicit false
namespace Mi
open PySem PySem.Spec L2
section
variable {cl : Nat → Addr} {X : Cx} {W : WX} {pos p apos q : Pos} {t a b o : Expr} {ea eb : EE}
/-! ### xs.pop(i) -/
def popI1 (i : Nat) (u : Val) (s2 : Sto) : R Val := match u with
  | .d (.int k) => (match s2[i]? with
    | some (.lst xs) => if 0 ≤ k ∧ k < (xs.length : Int) ∧ xs.length ≤ 1000000 then (match xs[k.toNat]? with
      | some y => .ok (.d y) (s2.set i (.lst (xs.eraseIdx k.toNat)))
      | none => .bad) else .bad
    | _ => .bad)
  | _ => .bad
def ePopI (eo ea : EE) : EE := fun env st => (eo env st).bind fun v s1 => match v with
  | .r i => (match s1[i]? with
    | some (.lst _) => (ea env s1).bind fun u s2 => popI1 i u s2
    | _ => .bad)
  | _ => .bad
theorem RepAll.eraseIdx {C : RC} {G : Hp} : ∀ {vs : List V} {ds : List D} (k : Nat), RepAll C G vs ds → RepAll C G (vs.eraseIdx k) (ds.eraseIdx k)
  | _, _, _, .nil => by simpa using RepAll.nil
  | _, _, 0, .cons a b => by simpa using b
  | _, _, k + 1, .cons a b => by simpa using RepAll.cons a (RepAll.eraseIdx k b)
def R.popI (r : R Val) (ea : EE) (env : Ev) : R Val := r.bind fun v s1 => match v with
  | .r i => (match s1[i]? with
    | some (.lst _) => (ea env s1).bind fun u s2 => popI1 i u s2
    | _ => .bad)
  | _ => .bad
@[simp] theorem ePopI_eq (eo ea : EE) (env : Ev) (st : Sto) : ePopI eo ea env st = (eo env st).popI ea env := rfl
/-! ### list(range(n)), to be changed -/
def eListRgR (ea : EE) : EE := fun env st => (ea env st).bind fun v s => match v with
  | .d (.int n) => if -(2 ^ 60) ≤ n ∧ n ≤ 1000000 then .ok (.r s.length) (s ++ [.lst (rngD 0 n.toNat)]) else .bad
  | _ => .bad
def R.lrgR (r : R Val) : R Val := r.bind fun v s => match v with
  | .d (.int n) => if -(2 ^ 60) ≤ n ∧ n ≤ 1000000 then .ok (.r s.length) (s ++ [.lst (rngD 0 n.toNat)]) else .bad
  | _ => .bad
@[simp] theorem eListRgR_eq (ea : EE) (env : Ev) (st : Sto) : eListRgR ea env st = (ea env st).lrgR := rfl
@[simp] theorem lrgR_ok (n : Int) (s : Sto) : (R.ok (.d (.int n)) s).lrgR = if -(2 ^ 60) ≤ n ∧ n ≤ 1000000 then .ok (.r s.length) (s ++ [.lst (rngD 0 n.toNat)]) else .bad := rfl
end
end Mi
end

section
set_option maxRecDepth 100000
set_option autoImplicit false
/-! a mutable list lent to a call that reads it -/
namespace Mi
open PySem PySem.Spec L2
mutual
/-- no lists, no dicts -/
def flat : D → Bool
  | .none => true
  | .bool _ => true
  | .int _ => true
  | .str _ => true
  | .tuple xs => flatAll xs
  | _ => false
def flatAll : List D → Bool
  | [] => true
  | x :: xs => flat x && flatAll xs
end
def flatO : MO → Bool
  | .lst xs => flatAll xs
  | .gone => true
  | _ => false
def flatS : Sto → Bool
  | [] => true
  | o :: s => flatO o && flatS s
section
variable {C : RC} {G : Hp} {a : Addr} {us : List V}
end
def lend1 (xs : List D) (j : Nat) : R Val → R Val
  | .ok (.d d) s => if flat d = true ∧ flatS s = true ∧ s.length > j then (match s[j]? with
    | some .gone => .ok (.d d) (s.set j (.lst xs))
    | _ => .bad) else .bad
  | _ => .bad
def lendG (i : Nat) (x : Option (Option Val)) (e : EE) (env : Ev) (st : Sto) : R Val := match x with
  | some (some (.r j)) => (match st[j]? with
    | some (.lst xs) => lend1 xs j (e (env.set i (some (.d (.list xs)))) (st.set j .gone))
    | _ => .bad)
  | _ => .bad
def eLend (i : Nat) (e : EE) : EE := fun env st => lendG i env[i]? e env st
@[simp] theorem eLend_eq (i : Nat) (e : EE) (env : Ev) (st : Sto) : eLend i e env st = lendG i env[i]? e env st := rfl
end Mi
end

section
set_option maxRecDepth 100000
set_option maxHeartbeats 2000000
set_option autoImplicit false
namespace Mi
open PySem PySem.Spec PyProof.Rows L2
/-! ### the head's facts, with tables of code objects -/
/-- the start: all but the tables is frozen -/
def noTbl (H : Hp) : Hp := fun b => match H b with
  | some (.tbl _) => none
  | o => o
theorem noTbl_some {H : Hp} {b : Addr} {u : HO} (h : noTbl H b = some u) : H b = some u := by
  unfold noTbl at h
  split at h
  · cases h
  · exact h
theorem noTbl_of {H : Hp} {b : Addr} {u : HO} (h : H b = some u) (e : isTbl u = false) : noTbl H b = some u := by
  unfold noTbl
  split
  · rename_i q; rw [h] at q; cases q; cases e
  · exact h
theorem sqL_noTbl {K : PySem.W.Frag} {H : Hp} {a : Addr} {xs : List V} (h : SqL K H a xs) : SqL K (noTbl H) a xs := by
  rcases h with h | h
  · rcases h with h | ⟨o, h⟩
    · exact .inl (.inl (noTbl_of h rfl))
    · exact .inl (.inr ⟨o, noTbl_of h rfl⟩)
  · exact .inr h
theorem rl_start {C : RC} {H : Hp} (hT : ∀ j, j < C.cls 99 → H (C.cls (100 + j)) = some (.tbl #[])) : Rl C (noTbl H) [] H [] := by
  refine ⟨fun a u e => noTbl_some e, rfl, List.nodup_nil, fun _ z => absurd z List.not_mem_nil, fun _ _ _ z => (by cases z), fun _ _ _ z => (by cases z), fun j hj => ⟨#[], hT j hj, List.not_mem_nil, ?_, True.intro, fun pos cv hc => ?_⟩, fun _ z => absurd z List.not_mem_nil⟩
  · unfold noTbl; rw [hT j hj]
  · have z : codeAmong pos [] = some cv := hc
    simp [codeAmong] at z
end Mi
end

section
set_option maxRecDepth 100000
set_option maxHeartbeats 2000000
set_option autoImplicit false
/-! instances of own classes: fields, methods, the making -/
namespace Mi
open PySem PySem.Spec L2
def putV (f : Str) (v : Val) : List (Str × Val) → List (Str × Val)
  | [] => [(f, v)]
  | (g, x) :: r => if g = f then (g, v) :: r else (g, x) :: putV f v r
def insAt (c : Nat) (v : Val) (s : Sto) : Option (Nat × List (Str × Val)) := match v with
  | .r i => (match s[i]? with
    | some (.ins c' fs) => if c' = c then some (i, fs) else none
    | _ => none)
  | _ => none
section
variable {cl : Nat → Addr} {X : Cx} {W : WX} {pos p apos pos' : Pos} {e o value : Expr} {es : List Expr} {eo ev : EE} {er : EA} {f m x : Str} {c k n : Nat}
/-! ### o.f -/
def eFld (c : Nat) (f : Str) (eo : EE) : EE := fun env st => (eo env st).bind fun v s => match insAt c v s with
  | some (_, fs) => (match fs.lookup f with
    | some x => .ok x s
    | none => .bad)
  | none => .bad
/-! ### o.f = v -/
def fldF (c : Nat) (f : Str) (y x : Val) (env : Ev) (s2 : Sto) : R Fl := match insAt c x s2 with
  | some (i, fs) => if fs.length < 1000 ∧ notC y = true then .ok (.nx env) (s2.set i (.ins c (putV f y fs))) else .bad
  | none => .bad
def sFld2 (c : Nat) (f : Str) (eo ev : EE) : ES := fun env st => (ev env st).bindS env fun y s1 => (eo env s1).bindS env fun x s2 => fldF c f y x env s2
/-! ### o.m(..) -/
def meth1 (n : Nat) (f : FN) (v : Val) (vs : List Val) (s2 : Sto) : R Val := if (v :: vs).length = n then f (v :: vs) s2 else .bad
def eMeth (c : Nat) (m : Str) (n : Nat) (f : FN) (eo : EE) (er : EA) : EE := fun env st => (eo env st).bind fun v s1 => match insAt c v s1 with
  | some (_, fs) => (match fs.lookup m with
    | none => (er env s1).bind fun vs s2 => meth1 n f v vs s2
    | some _ => .bad)
  | none => .bad
end
end Mi
end

section
set_option maxRecDepth 100000
set_option maxHeartbeats 2000000
set_option autoImplicit false
/-! instances: the making; defs that keep their store -/
namespace Mi
open PySem PySem.Spec L2
section
variable {cl : Nat → Addr} {P : Program} {w : World} {K : PySem.W.Frag} {mg : Str → Option Value} {base : Heap} {k n : Nat} {x qual : Str} {params : Arguments} {body : List Stmt} {scope : Scope} {dvs : List V} {kws : List (Str × V)} {fa : Addr} {fd : FuncData} {N ps : List Str} {ev : ES} {f : FN}
end
/-! ### the making -/
theorem Rl.made {C : RC} {G : Hp} {m : List Addr} {H : Hp} {st : Sto} {x dx : Addr} {c : Nat} (r : Rl C G m H st) (hx : H x = none) (hd : H dx = none) (hne : dx ≠ x) :
    Rl C G (m ++ [x]) (upd (upd H dx (.own x)) x (.ins (C.cls c) dx [])) (st ++ [.ins c []]) ∧ Ext G m H G (m ++ [x]) (upd (upd H dx (.own x)) x (.ins (C.cls c) dx [])) := by
  have r1 := r.side (r.notin hd) (r.freeG hd) (.own x) (nt_none hd)
  have e1 := Ext.side (Ext.refl G m H) hd (.own x)
  have hx1 : upd H dx (.own x) x = none := by rw [upd_ne (fun e => hne e.symm)]; exact hx
  obtain ⟨r2, e2⟩ := r1.alloc hx1 (.ins (C.cls c) dx []) (.ins c []) ⟨dx, [], upd_same, rfl, .nil⟩
  exact ⟨r2, e1.trans e2⟩
section
variable {cl : Nat → Addr} {X : Cx} {W : WX} {pos p : Pos} {a : Expr} {es : List Expr} {er : EA} {x : Str} {k n c : Nat} {f : FN}
end
/-! ### xs[::-1] -/
def eRev (ea : EE) : EE := fun env st => (ea env st).bind fun v s => match lsOf v s with
  | some xs => .ok (.d (.list xs.reverse)) s
  | none => .bad
/-! ### step equations -/
def R.finI (r : R Fl) : R Val := match r with
    | .ok (.nx _) s => .ok (.d .none) s
    | .ok (.rt v) s => .ok v s
    | .ok (.ex e _) s => .exc e s
    | _ => .bad
@[simp] theorem finI_nx (e : Ev) (s : Sto) : (R.ok (.nx e) s).finI = .ok (.d .none) s := rfl
@[simp] theorem finI_rt (v : Val) (s : Sto) : (R.ok (.rt v) s).finI = .ok v s := rfl
def R.fldR (r : R Val) (c : Nat) (f : Str) : R Val := r.bind fun v s => match insAt c v s with
  | some (_, fs) => (match fs.lookup f with
    | some x => .ok x s
    | none => .bad)
  | none => .bad
@[simp] theorem eFld_eq (c : Nat) (f : Str) (eo : EE) (env : Ev) (st : Sto) : eFld c f eo env st = (eo env st).fldR c f := rfl
def R.fldS2 (r : R Val) (c : Nat) (f : Str) (y : Val) (env : Ev) : R Fl := r.bindS env fun x s2 => fldF c f y x env s2
def R.fldS1 (r : R Val) (c : Nat) (f : Str) (eo : EE) (env : Ev) : R Fl := r.bindS env fun y s1 => (eo env s1).fldS2 c f y env
@[simp] theorem sFld2_eq (c : Nat) (f : Str) (eo ev : EE) (env : Ev) (st : Sto) : sFld2 c f eo ev env st = (ev env st).fldS1 c f eo env := rfl
@[simp] theorem fldS1_ok (y : Val) (s : Sto) (c : Nat) (f : Str) (eo : EE) (env : Ev) : (R.ok y s).fldS1 c f eo env = (eo env s).fldS2 c f y env := rfl
@[simp] theorem fldS2_ok (x : Val) (s : Sto) (c : Nat) (f : Str) (y : Val) (env : Ev) : (R.ok x s).fldS2 c f y env = fldF c f y x env s := rfl
def R.meth2 (r : R (List Val)) (n : Nat) (f : FN) (v : Val) : R Val := r.bind fun vs s2 => meth1 n f v vs s2
def R.methR (r : R Val) (c : Nat) (m : Str) (n : Nat) (f : FN) (er : EA) (env : Ev) : R Val := r.bind fun v s1 => match insAt c v s1 with
  | some (_, fs) => (match fs.lookup m with
    | none => (er env s1).meth2 n f v
    | some _ => .bad)
  | none => .bad
@[simp] theorem eMeth_eq (c : Nat) (m : Str) (n : Nat) (f : FN) (eo : EE) (er : EA) (env : Ev) (st : Sto) : eMeth c m n f eo er env st = (eo env st).methR c m n f er env := rfl
@[simp] theorem meth2_ok (vs : List Val) (s : Sto) (n : Nat) (f : FN) (v : Val) : (R.ok vs s).meth2 n f v = if (v :: vs).length = n then f (v :: vs) s else .bad := rfl
def R.revE (r : R Val) : R Val := r.bind fun v s => match lsOf v s with
  | some xs => .ok (.d (.list xs.reverse)) s
  | none => .bad
@[simp] theorem eRev_eq (ea : EE) (env : Ev) (st : Sto) : eRev ea env st = (ea env st).revE := rfl
@[simp] theorem revE_ok (v : Val) (s : Sto) : (R.ok v s).revE = match lsOf v s with
  | some xs => .ok (.d (.list xs.reverse)) s
  | none => .bad := rfl
end Mi
end

section
set_option maxRecDepth 100000
set_option autoImplicit false
/-! own classes in the head's facts -/
namespace Mi
open PySem PySem.Spec PyProof.Rows L2
section
variable {cl : Nat → Addr} {P : Program} {w : World} {K : PySem.W.Frag} {mg : Str → Option Value} {base : Heap} {k j n : Nat} {m x : Str} {h : Heap} {g : FN}
end
end Mi
end

section
set_option maxRecDepth 100000
set_option maxHeartbeats 2000000
set_option autoImplicit false
/-! defs as values: `for test in (f, g, h)` and the call of such a name -/
namespace Mi
open PySem PySem.Spec L2
/-- the defs that a value may be -/
inductive FJs (cl : Nat → Addr) (X : Cx) (k n : Nat) : Nat → List FN → Prop
  | nil {i : Nat} : FJs cl X k n i []
  | cons {i : Nat} {x : Str} {f : FN} {fs : List FN} (F : FokP cl X.prog X.w X.K X.mg X.base k x n f) (hm : X.mg x = some (.ref (cl (200 + i)))) (r : FJs cl X k n (i + 1) fs) : FJs cl X k n i (f :: fs)
theorem FJs.at {cl : Nat → Addr} {X : Cx} {k n : Nat} {i : Nat} {fs : List FN} (h : FJs cl X k n i fs) : ∀ {j : Nat} {f : FN}, fs[j]? = some f → FAt cl X k n (cl (200 + (i + j))) f := by
  induction h with
  | nil => intro j f e; simp at e
  | @cons i x g fs F hm r ih =>
    intro j f e
    cases j with
    | zero =>
      simp at e
      subst e
      obtain ⟨fa, fd, ps, hp, Fo, hm2, hk, hb⟩ := F.ok
      rw [hm] at hm2
      cases hm2
      exact ⟨fd, ps, Fo, hk, hb⟩
    | succ j =>
      have := ih (j := j) (by simpa using e)
      rwa [show i + 1 + j = i + (j + 1) by omega] at this
section
variable {cl : Nat → Addr} {X : Cx} {W : WX} {pos p1 p2 p : Pos} {i a t : Expr} {es fe : List Expr} {er : EA} {ei : EE} {k n : Nat} {fs : List FN} {js : List Nat} {x : Str}
end
end Mi
end

section
set_option maxRecDepth 100000
set_option maxHeartbeats 2000000
set_option autoImplicit false
/-! {k: v} with a tuple key; try of a body that raises nothing; calls with keyword-only arguments -/
namespace Mi
open PySem PySem.Spec PyProof.Rows L2
section
variable {prog : Program} {w : World} {A : Around} {E : Value → Shared → Prop} {s : Shared} {env : Env}
end
section
variable {cl : Nat → Addr} {X : Cx} {W : WX} {pos : Pos} {k v : Expr} {ek ev : EE}
end
/-! ### try .. except (A, B): a body that raises nothing -/
section
variable {cl : Nat → Addr} {X : Cx} {W : WX} {pos : Pos} {body : List Stmt} {h0 : ExceptHandler} {hds : List ExceptHandler} {eb : ES}
end
/-! ### f(a, .., k = v) -/
theorem RepVs.app {C : RC} {G : Hp} {m : List Addr} : ∀ {vs ws : List V} {xs ys : List Val}, RepVs C G m vs xs → RepVs C G m ws ys → RepVs C G m (vs ++ ws) (xs ++ ys)
  | _, _, _, _, .nil, r => r
  | _, _, _, _, .cons h t, r => .cons h (RepVs.app t r)
section
variable {cl : Nat → Addr} {X : Cx} {W : WX} {pos p : Pos} {a : Expr} {es : List Expr} {kws : List Keyword} {ea ek : EA} {n k : Nat} {ks : List Str} {x : Str} {f : FN}
end
end Mi
end

section
set_option maxRecDepth 100000
set_option maxHeartbeats 2000000
set_option autoImplicit false
/-! texts: f-strings, join, split, str(i), int(s), walking a text -/
namespace Mi
open PySem PySem.Spec PyProof.Rows L2
/-! ### f-strings -/
def eFmt (e : EE) : EE := fun env st => (e env st).bind fun v s => match v with
  | .d (.str y) => if small y.length = true then .ok (.d (.str y)) s else .bad
  | .d (.int i) => if i.natAbs.log2 < 1920 then .ok (.d (.str (toString i))) s else .bad
  | _ => .bad
def eJoinF : List EE → Str → EE
  | [], acc => fun env st => .ok (.d (.str acc)) st
  | e :: es, acc => fun env st => (e env st).bind fun v s => match v with
    | .d (.str y) => if small (acc ++ y).length = true then eJoinF es (acc ++ y) env s else .bad
    | _ => .bad
section
variable {cl : Nat → Addr} {X : Cx} {W : WX} {pos p apos : Pos} {a b o e : Expr} {ea eb eo ee : EE}
theorem se_fmt (he : SE cl X W e ee) : SE cl X W (.FormattedValue e (-1) none pos) (eFmt ee) := (pe_fmt he).impM fun σ H Q h => by
  obtain ⟨G, m, env, st, rl, en, pp⟩ := h
  refine ⟨G, m, env, st, rl, en, Post.bindE pp fun v s1 x H1 G1 m1 _ e1 rl1 r1 p1 => ?_⟩
  split at p1
  · rename_i y
    split at p1
    · rename_i hs
      cases r1 with
      | d r => cases r; exact .inl ⟨_, rfl, small_is hs, p1 _ H1 G1 m1 (Ext.refl _ _ _) rl1 (.d (.str _))⟩
    · exact p1.elim
  · rename_i i
    split at p1
    · rename_i hs
      cases r1 with
      | d r => cases r; exact .inr ⟨_, rfl, hs, p1 _ H1 G1 m1 (Ext.refl _ _ _) rl1 (.d (.str _))⟩
    · exact p1.elim
  · exact p1.elim
inductive JS (cl : Nat → Addr) (X : Cx) (W : WX) : List Expr → List EE → Prop
  | nil : JS cl X W [] []
  | cons {e : Expr} {ee : EE} {es : List Expr} {l : List EE} (h : SE cl X W e ee) (r : JS cl X W es l) : JS cl X W (e :: es) (ee :: l)
theorem js_pj {es : List Expr} {l : List EE} (h : JS cl X W es l) : PJ X es (l.map fun ee => tE (rc X cl) W ee) := by
  induction h with
  | nil => exact .nil
  | cons h r ih => exact .cons h ih
theorem tJs_of {σ : L2.St} {Q : VK} : ∀ (l : List EE) (acc : Str) (G : Hp) (m : List Addr) (env : Ev) (st : Sto) (H : Hp), Rl (rc X cl) G m H st → EnvR (rc X cl) G m σ env → Post (rc X cl) (RepV (rc X cl)) G m H Q (fun c d H' => W c d σ H') (eJoinF l acc env st) → tJs (l.map fun ee => tE (rc X cl) W ee) acc σ H fun out H1 => Q (.str out) H1
  | [], acc, G, m, env, st, H, rl, en, pp => pp _ H G m (Ext.refl _ _ _) rl (.d (.str _))
  | ee :: l, acc, G, m, env, st, H, rl, en, pp => by
    refine ⟨G, m, env, st, rl, en, Post.bindE pp fun v s1 x H1 G1 m1 _ e1 rl1 r1 p1 => ?_⟩
    split at p1
    · rename_i y
      split at p1
      · rename_i hs
        cases r1 with
        | d r => cases r; exact ⟨_, rfl, small_is hs, tJs_of l _ G1 m1 env s1 H1 rl1 (en.ext e1) p1⟩
      · exact p1.elim
    · exact p1.elim
theorem se_joined {v1 v2 : Expr} {rest : List Expr} {l : List EE} (h : JS cl X W (v1 :: v2 :: rest) l) : SE cl X W (.JoinedStr (v1 :: v2 :: rest) pos) (eJoinF l Str.empty) := (pe_joined (js_pj h)).impM fun σ H Q h => by
  obtain ⟨G, m, env, st, rl, en, pp⟩ := h
  exact tJs_of l Str.empty G m env st H rl en pp
/-! ### split, join -/
def eSplit (eo ea : EE) : EE := fun env st => (eo env st).bind fun x s => match x with
  | .d (.str a) => (ea env s).bind fun y s2 => (match y with
    | .d (.str b) => if (b.length == 0) = false ∧ small (a.length + 2) = true then .ok (.d (.list ((Txt.split a b).map .str))) s2 else .bad
    | _ => .bad)
  | _ => .bad
theorem rep_strs {C : RC} {G : Hp} : ∀ ys : List Str, RepAll C G (ys.map V.str) (ys.map PyData.str)
  | [] => .nil
  | _ :: r => .cons (.str _) (rep_strs r)
theorem se_split (ho : SE cl X W o eo) (ha : SE cl X W a ea) (hs : starEach [a] X.env = [(false, eval a X.env)] := by rfl) (hbase : attributeBase o "split" X.env (eval o X.env) = eval o X.env := by rfl) (hline : (apos.endLine == pos.line) = true := by rfl) :
    SE cl X W (.Call (.Attribute o "split" apos) [a] [] pos) (eSplit eo ea) := (pe_split ho ha hs hbase hline).impM fun σ H Q h => by
  obtain ⟨G, m, env, st, rl, en, pp⟩ := h
  refine ⟨G, m, env, st, rl, en, Post.bindE pp fun x s x1 H1 G1 m1 _ e1 rl1 r1 p1 => ?_⟩
  split at p1
  · rename_i a0
    cases r1 with
    | d r =>
    cases r
    refine ⟨⟨_, rfl⟩, G1, m1, env, s, rl1, en.ext e1, Post.bindE p1 fun y s2 y1 H2 G2 m2 _ e2 rl2 r2 p2 => ?_⟩
    split at p2
    · rename_i b0
      split at p2
      · rename_i hl
        cases r2 with
        | d r =>
        cases r
        exact ⟨_, _, rfl, rfl, hl.1, small_is hl.2, fun q hq => new_lst rl2 hq (rep_strs _) p2⟩
      · exact p2.elim
    · exact p2.elim
  · exact p1.elim
def strsOf : List D → Option (List Str)
  | [] => some []
  | .str x :: r => (strsOf r).map (x :: ·)
  | _ => none
theorem strs_of {C : RC} {G : Hp} : ∀ {ds : List D} {vs : List V} {ys : List Str}, RepAll C G vs ds → strsOf ds = some ys → vs = ys.map V.str
  | [], _, ys, r, h => by cases r; cases h; rfl
  | .str x :: ds, _, ys, r, h => by
    cases r with
    | cons r1 r2 =>
      simp only [strsOf, Option.map_eq_some_iff] at h
      obtain ⟨zs, h1, rfl⟩ := h
      cases r1
      rw [strs_of r2 h1]; rfl
  | .none :: _, _, _, _, h => by cases h
  | .bool _ :: _, _, _, _, h => by cases h
  | .int _ :: _, _, _, _, h => by cases h
  | .list _ :: _, _, _, _, h => by cases h
  | .tuple _ :: _, _, _, _, h => by cases h
  | .dict _ :: _, _, _, _, h => by cases h
def eJoin (eo ea : EE) : EE := fun env st => (eo env st).bind fun x s => match x with
  | .d (.str a) => (ea env s).bind fun y s2 => (match sqOf y s2 with
    | some ds => (match strsOf ds with
      | some ys => if small ((ys.map (·.length)).sum + ys.length * a.length) = true then .ok (.d (.str (Txt.join a ys))) s2 else .bad
      | none => .bad)
    | none => .bad)
  | _ => .bad
theorem se_join (ho : SE cl X W o eo) (ha : SE cl X W a ea) (hs : starEach [a] X.env = [(false, eval a X.env)] := by rfl) (hbase : attributeBase o "join" X.env (eval o X.env) = eval o X.env := by rfl) (hline : (apos.endLine == pos.line) = true := by rfl) :
    SE cl X W (.Call (.Attribute o "join" apos) [a] [] pos) (eJoin eo ea) := (pe_join ho ha hs hbase hline).impM fun σ H Q h => by
  obtain ⟨G, m, env, st, rl, en, pp⟩ := h
  refine ⟨G, m, env, st, rl, en, Post.bindE pp fun x s x1 H1 G1 m1 _ e1 rl1 r1 p1 => ?_⟩
  split at p1
  · rename_i a0 _
    cases r1 with
    | d r =>
    cases r
    refine ⟨⟨_, rfl⟩, G1, m1, env, s, rl1, en.ext e1, Post.bindE p1 fun y s2 y1 H2 G2 m2 _ e2 rl2 r2 p2 => ?_⟩
    split at p2
    · rename_i ds hd
      split at p2
      · rename_i ys hy
        split at p2
        · rename_i hl
          obtain ⟨q, vs, rfl, hv, ra⟩ := sq_of rl2 r2 hd
          obtain rfl := strs_of ra hy
          have h6 := small_is hl
          rw [sizeLine_eq] at h6
          have h7 : (ys.map (·.length)).sum + ys.length * a0.length ≤ 16777216 := by
            have := of_decide_eq_true (show decide _ = true from hl)
            omega
          exact ⟨_, _, ys, rfl, rfl, hv.imp SqL.of id, h7, p2 _ H2 G2 m2 (Ext.refl _ _ _) rl2 (.d (.str _))⟩
        · exact p2.elim
      · exact p2.elim
    · exact p2.elim
  · exact p1.elim
end
/-! ### str(i), int(s), c in s -/
section
variable {cl : Nat → Addr} {X : Cx}
def bStrI : BF := fun as st => match as with
  | [.d (.int i)] => if i.natAbs.log2 < 1920 then some (.d (.str (toString i)), st) else none
  | _ => none
theorem c_strI : CallR X (.type "str") (rC (rc X cl) bStrI) := callR_imp call_str_int fun xs H Q h => by
  obtain ⟨G, m, st, as, rl, ra, p⟩ := h
  unfold bStrI at p
  split at p
  · obtain ⟨v, rfl, rv⟩ := repVs1 ra
    split at p
    · rename_i hl
      cases rv with
      | d r => cases r; exact ⟨_, rfl, hl, p _ H G m (Ext.refl _ _ _) rl (.d (.str _))⟩
    · exact p.elim
  · exact p.elim
def bLenS : BF := fun as st => match as with
  | [.d (.str z)] => if small z.length = true then some (.d (.int (z.length : Nat)), st) else none
  | _ => none
theorem c_lenS : CallR X (.builtin "len") (rC (rc X cl) bLenS) := callR_imp call_len_str fun xs H Q h => by
  obtain ⟨G, m, st, as, rl, ra, p⟩ := h
  unfold bLenS at p
  split at p
  · obtain ⟨v, rfl, rv⟩ := repVs1 ra
    split at p
    · rename_i hl
      cases rv with
      | d r => cases r; exact ⟨_, rfl, small_is hl, p _ H G m (Ext.refl _ _ _) rl (.d (.int _))⟩
    · exact p.elim
  · exact p.elim
def bIntS : BF := fun as st => match as with
  | [.d (.str a)] => (match PySem.intText? a with
    | some n => if a.length ≤ 640 then some (.d (.int n), st) else none
    | none => none)
  | _ => none
theorem c_intS : CallR X (.type "int") (rC (rc X cl) bIntS) := callR_imp call_int_str fun xs H Q h => by
  obtain ⟨G, m, st, as, rl, ra, p⟩ := h
  unfold bIntS at p
  split at p
  · obtain ⟨v, rfl, rv⟩ := repVs1 ra
    split at p
    · rename_i n e
      split at p
      · rename_i hl
        cases rv with
        | d r => cases r; exact ⟨_, _, rfl, e, hl, p _ H G m (Ext.refl _ _ _) rl (.d (.int _))⟩
      · exact p.elim
    · exact p.elim
  · exact p.elim
instance (x : Str) (n : Int) : Decidable (MulOk x n) := by unfold MulOk; infer_instance
def vInSg (a b : Val) (st : Sto) : Option (Val × Sto) := match a, b with
  | .d (.str x), .d (.str z) => (match x.cps.toList with
    | [c] => some (.d (.bool (decide (c ∈ z.cps.toList))), st)
    | _ => none)
  | _, _ => none
theorem o_inSg : OpR X (compareOp .In) (rO (rc X cl) vInSg) := by
  intro pins s σ H x y v u Q I rx ry h
  obtain ⟨G, m, st, a, b, rl, ra, rb, p⟩ := h
  unfold vInSg at p
  split at p
  · rename_i x0 z0
    split at p
    · rename_i c hc
      cases ra with
      | d ra =>
      cases rb with
      | d rb =>
      cases ra
      cases rb
      have e : x0 = ⟨#[c]⟩ := by
        cases x0 with
        | mk cps => cases cps with
          | mk l => simp at hc; subst hc; rfl
      subst e
      exact op_inS pins s σ H _ _ v u Q I rx ry ⟨c, z0, rfl, rfl, p _ H G m (Ext.refl _ _ _) rl (.d (.bl _))⟩
    · exact p.elim
  · exact p.elim
end
/-! ### walking a text -/
section
variable {cl : Nat → Addr} {X : Cx} {W : WX} {t a : Expr} {ea : EE}
def iTxt (e : EE) : EI := fun env st => (e env st).bind fun v s => match v with
  | .d (.str x) => .ok (x.cps.toList.map fun c => PyData.str ⟨#[c]⟩) s
  | _ => .bad
theorem iters_txt {C : RC} {G : Hp} (x : Str) : Iters C G (Its x) (x.cps.toList.map fun c => PyData.str ⟨#[c]⟩) where
  go := fun {G1 m1 H st1 i} s rl hi => by simpa [Its] using hi
  yld := fun {G1 m1 H st1 i y H' d} s rl yy e => by
    obtain ⟨rfl, c, hc, rfl⟩ := yy
    have : d = .str ⟨#[c]⟩ := by
      rw [List.getElem?_map] at e
      have hc2 : x.cps.toList[i]? = some c := by simpa using hc
      rw [hc2] at e
      cases e; rfl
    subst this
    exact ⟨G1, Ext.refl _ _ _, rl, .str _⟩
  stop := fun {G1 m1 H st1 i} s rl hi => by simpa [Its] using hi
theorem si_txt (he : SE cl X W a ea) : SI cl X W t a (iTxt ea) := (pi_str he).impM fun σ H Q h => by
  obtain ⟨G, m, env, st, rl, en, p⟩ := h
  refine ⟨G, m, env, st, rl, en, Post.bindE p fun v s1 x H1 G1 m1 _ e1 rl1 r1 p1 => ?_⟩
  split at p1
  · cases r1 with
    | d r => cases r; exact ⟨_, rfl, p1 _ H1 G1 m1 (Ext.refl _ _ _) rl1 (iters_txt _)⟩
  · exact p1.elim
end
/-! ### {"a": 1, ..}.get(x) -/
section
variable {cl : Nat → Addr} {X : Cx} {W : WX} {pos pd apos : Pos} {a : Expr} {ea : EE}
end
end Mi
end

section
set_option maxRecDepth 100000
set_option maxHeartbeats 2000000
set_option autoImplicit false
/-! try .. except (A, B): return .. -/
namespace Mi
open PySem PySem.Spec PyProof.Rows L2
section
variable {X : Cx} {body : List Stmt} {pos : Pos} {tb : WX → TS} {Wo : WX}
end
section
variable {cl : Nat → Addr} {X : Cx} {X8 : List Nat} {W : WX} {body : List Stmt} {eb : ES} {pos p1 p2 p3 p4 p5 : Pos} {k1 : Nat} {x y : Str} {E : Expr} {f : HV}
end
end Mi
namespace Mi
open PySem PySem.Spec PyProof.Rows L2
/-! ### f(a, ..) of a def whose keyword-only arguments lack -/
section
variable {cl : Nat → Addr} {X : Cx} {W : WX} {pos p : Pos} {a : Expr} {es : List Expr} {er : EA} {x : Str} {k n : Nat} {f : FN} {ds : List D}
end
end Mi
namespace Mi
open PySem PySem.Spec PyProof.Rows L2
/-! ### x < y of lists and tuples -/
end Mi
namespace Mi
open PySem PySem.Spec PyProof.Rows L2
end Mi
end

section
set_option maxRecDepth 100000
set_option maxHeartbeats 2000000
set_option autoImplicit false
/-! instances: ==, isinstance, len, str; methods with defaults; f-strings of one part -/
namespace Mi
open PySem PySem.Spec PyProof.Rows L2
section
variable {cl : Nat → Addr} {X : Cx} {c k : Nat} {f' : FN}
/-! ### x == y by the class's own -/
/-! ### isinstance(x, C) -/
/-! ### len(x), str(x) by the class's own -/
/-! ### f"{..}" -/
/-! ### o.m(..), the rest by defaults -/
end
section
variable {cl : Nat → Addr} {X : Cx} {W : WX} {pos p apos : Pos} {e o : Expr} {es : List Expr} {eo : EE} {er : EA} {m : Str} {c k n : Nat} {ds : List D}
end
section
variable {cl : Nat → Addr} {P : Program} {w : World} {K : PySem.W.Frag} {mg : Str → Option Value} {base : Heap} {k c n : Nat} {m : Str} {f : FN} {fa : Addr} {fd : FuncData} {ps : List Str} {ds : List D} {dv : List Value} {dV : List V}
end
end Mi
namespace Mi
open PySem PySem.Spec PyProof.Rows L2
section
variable {cl : Nat → Addr} {X : Cx} {c k : Nat} {f' : FN}
end
end Mi
end

section
set_option maxRecDepth 100000
set_option maxHeartbeats 2000000
set_option autoImplicit false
/-! [.. for x in xs] where xs is a list that is changed later -/
namespace Mi
open PySem PySem.Spec L2
section
variable {cl : Nat → Addr} {X : Cx} {W : WX} {pos : Pos} {t a c elt : Expr} {ifs : List Expr} {ea : EE} {tg : Tg} {tt : ET} {ee : EE}
variable {scope : Scope} {own : List (Str × Nat)}
end
end Mi
end

section
set_option maxRecDepth 100000
set_option autoImplicit false
/-! slices of texts -/
namespace Mi
open PySem PySem.Spec L2
section
variable {cl : Nat → Addr} {X : Cx} {W : WX} {pos : Pos} {a : Expr} {ea : EE}
def vSlT (a : Val) (lo hi : Option Int) (st : Sto) : Option (Val × Sto) := match a with
  | .d (.str x) => if small x.length = true then some (.d (.str (cutS x lo hi)), st) else none
  | _ => none
def eSlT (a : EE) (lo hi : EO) : EE := fun env st => (a env st).bind fun x s1 => (lo env s1).bind fun l s2 => (hi env s2).bind fun h s3 => R.of (vSlT x l h s3)
def rSAT (C : RC) : V → Option Int → Option Int → Hp → VK → Prop := fun x lo hi H Q => ∃ G m st a, Rl C G m H st ∧ RepV C G m x a ∧ PostO C (RepV C) G m H Q (vSlT a lo hi st)
theorem sl_anyT : SlR X (rSAT (rc X cl)) := by
  intro pins s σ H x v vl vu lo hi sl Q I rx hs pl pu h
  refine sl_str pins s σ H x v vl vu lo hi sl Q I rx hs pl pu ?_
  obtain ⟨G, m, st, a, rl, ra, p⟩ := h
  unfold vSlT at p
  split at p
  · rename_i z
    split at p
    · rename_i hz
      cases ra with
      | d ra => cases ra; exact ⟨z, rfl, small_is hz, p _ H G m (Ext.refl _ _ _) rl (.d (.str _))⟩
    · exact p.elim
  · exact p.elim
theorem se_sliceT {lo hi : Option Expr} {p2 : Pos} {el eh : EO} (ha : SE cl X W a ea) (hl : SO cl X W lo el) (hh : SO cl X W hi eh) : SE cl X W (.Subscript a (.Slice lo hi none p2) pos) (eSlT ea el eh) := (pe_slice sl_anyT ha hl hh).impM fun σ H Q h => by
  obtain ⟨G, m, env, st, rl, en, p⟩ := h
  refine ⟨G, m, env, st, rl, en, Post.bindE p fun v s1 x H1 G1 m1 _ e1 rl1 r1 p1 => ⟨G1, m1, env, s1, rl1, en.ext e1, Post.bindE p1 fun l s2 y H2 G2 m2 _ e2 rl2 r2 p2 => ⟨G2, m2, env, s2, rl2, (en.ext e1).ext e2, Post.bindE p2 fun h s3 z H3 G3 m3 _ e3 rl3 r3 p3 => ?_⟩⟩⟩
  cases (show y = l from r2)
  cases (show z = h from r3)
  exact ⟨G3, m3, s3, v, rl3, (r1.ext e2).ext e3, p3.of⟩
end
def slT3 (r : R (Option Int)) (x : Val) (l : Option Int) : R Val := r.bind fun h s => R.of (vSlT x l h s)
def slT2 (r : R (Option Int)) (x : Val) (hi : EO) (env : Ev) : R Val := r.bind fun l s => slT3 (hi env s) x l
def slT1 (r : R Val) (lo hi : EO) (env : Ev) : R Val := r.bind fun x s => slT2 (lo env s) x hi env
theorem slT3_ok (h : Option Int) (s : Sto) (x : Val) (l : Option Int) : slT3 (R.ok h s) x l = R.of (vSlT x l h s) := rfl
theorem slT2_ok (l : Option Int) (s : Sto) (x : Val) (hi : EO) (env : Ev) : slT2 (R.ok l s) x hi env = slT3 (hi env s) x l := rfl
theorem slT1_ok (x : Val) (s : Sto) (lo hi : EO) (env : Ev) : slT1 (R.ok x s) lo hi env = slT2 (lo env s) x hi env := rfl
theorem eSlT_eq (a : EE) (lo hi : EO) (env : Ev) (st : Sto) : eSlT a lo hi env st = slT1 (a env st) lo hi env := rfl
end Mi
end

section
set_option maxRecDepth 100000
set_option autoImplicit false
/-! x, *rest = a list -/
namespace L2
open PySem PySem.Spec PyProof.Rows
theorem wpAny_draw_list {prog : Program} {w : World} {A : Around} {E : Value → Shared → Prop} {it t : Addr} {items : Array Value} (hne : t ≠ it) : ∀ (n i : Nat) (s : Shared) (Q : List Value → Shared → Prop), s.heap.IsListIter it t i → s.heap.IsList t items → i + n ≤ items.size →
    (∀ h', h'.IsListIter it t (i + n) → Heap.SameBut it s.heap h' → Q ((items.toList.drop i).take n) { s with heap := h' }) → wpAny (model prog w) A (draw (.ref it) n) Q E s
  | 0, i, s, Q, hit, _, _, hQ => by
    show wpAny _ _ (pure []) Q E s
    exact wpAny_pure (by simpa using hQ s.heap hit (Heap.SameBut.refl ..))
  | n + 1, i, s, Q, hit, ht, hle, hQ => by
    have hlt : i < items.size := by omega
    show wpAny _ _ (pyNext (.ref it) >>= _) Q E s
    refine wpAny_bind (wpAny_pyNext_list_item hit ht (x := items[i]) (by simp [hlt]) fun h₁ hit₁ hs₁ => ?_)
    refine wpAny_bind (wpAny_holding (wpAny_draw_list hne n (i + 1) _ _ hit₁ (ht.extBut hs₁.extBut hne) (by omega) fun h₂ hit₂ hs₂ => wpAny_pure ?_))
    have hd : items.toList.drop i = items[i] :: items.toList.drop (i + 1) := by simp [List.drop_eq_getElem_cons, hlt]
    have := hQ h₂ (by rw [show i + (n + 1) = i + 1 + n by omega]; exact hit₂) (hs₁.trans hs₂)
    rw [hd, List.take_succ_cons] at this
    exact this
section
variable {prog : Program} {w : World} {A : Around} {E : Value → Shared → Prop} {s : Shared}
theorem walksS_lst (hh : A.handled = none) (I ax : Addr) (hne : ax ≠ I) (items : Array Value) (k : Nat) :
    WalksS prog w A I [I, ax] [I] (fun a b => a = b) (items.size - k) (fun i v => items[i + k]? = some v) (fun i s => s.heap.IsListIter I ax (i + k) ∧ s.heap.IsList ax items ∧ k ≤ items.size) where
  sub := fun b hb => by simp at hb; simp [hb]
  grefl := fun _ => rfl
  gtrans := fun _ _ _ a b => a.trans b
  frame := fun _ _ _ _ st _ hk => ⟨st.1.at fun o e => hk I (by simp) o e, st.2.1.at fun o e => hk ax (by simp) o e, st.2.2⟩
  item := fun i s Q E hi st hQ => by
    have hlt : i + k < items.size := by omega
    refine wpAny_pyNext_list_item st.1 st.2.1 (x := items[i + k]) (by simp [hlt]) fun h' hit' hs' => ?_
    refine hQ _ { s with heap := h' } (by simp [hlt]) ⟨?_, st.2.1.extBut hs'.extBut hne, st.2.2⟩ ⟨fun b o hb e => hs'.extBut b o (fun h => hb (by simp [h])) e, rfl, rfl, rfl, Nat.le_refl _⟩
    rw [show i + 1 + k = i + k + 1 by omega]; exact hit'
  done := fun s Q E st hQ => by
    refine wpAny_pyNext_list_end hh st.1 st.2.1 (Array.getElem?_eq_none (by have := st.2.2; omega)) fun h' he' => hQ { s with heap := h' } ⟨fun b o hb e => he' b o (fun h => hb (by simp [h])) e, rfl, rfl, rfl, Nat.le_refl _⟩
  self := fun _ _ _ _ st hQ => wpAny_pyIter_listiter st.1 hQ
/-- x, *rest = t -/
theorem unpackItems_starL {t : Addr} {items : Array Value} {x : Value} {Q : List Value → Shared → Prop} (hh : A.handled = none) (ht : s.heap.IsList t items) (hx : items[0]? = some x) (hz : items.size ≤ sizeLine)
    (hQ : ∀ s' : Shared, (∀ b o, s.heap.get? b = some o → s'.heap.get? b = some o) → s'.gens = s.gens → s'.os = s.os → Q [x, .ref s'.heap.objs.size] { s' with heap := s'.heap.push { cls := .type "list", data := .seq (items.toList.drop 1).toArray } }) :
    wpAny (model prog w) A (unpackItems (.ref t) 2 (some 1)) Q E s := by
  have hlt : t ≠ s.heap.objs.size := by obtain ⟨o, ho, _⟩ := ht; exact Nat.ne_of_lt (Heap.lt_size ho)
  have hpos : 1 ≤ items.size := by
    rcases Nat.eq_zero_or_pos items.size with e | e
    · rw [Array.getElem?_eq_none (by omega)] at hx; cases hx
    · exact e
  unfold unpackItems
  refine wpAny_bind ?_
  unfold notIterableAtAll
  refine wpAny_bind (wpAny_specialOf ht.typeIs slot_list_iter.lookup ?_)
  refine wpAny_pure ?_
  simp only [Bool.false_eq_true, if_false]
  refine wpAny_bind (wpAny_holding (wpAny_pyIter_list ht ?_))
  have ht1 : (s.heap.push { cls := .type "list_iterator", data := .fields #[.ref t, rawInt 0] }).IsList t items := by
    obtain ⟨o, ho, r⟩ := ht
    exact ⟨o, Heap.get?_push_of_some _ ho, r⟩
  refine wpAny_bind (wpAny_holding (wpAny_draw_list hlt 1 0 _ _ ⟨_, Heap.get?_push_size _ rfl, rfl, rfl⟩ ht1 (by omega) fun h₁ hit₁ hs₁ => ?_))
  have hl : items.toList = x :: items.toList.drop 1 := by
    have h0 : items.toList[0]? = some x := by simpa using hx
    cases e : items.toList with
    | nil => rw [e] at h0; simp at h0
    | cons a r => rw [e] at h0; simp at h0; rw [h0]; rfl
  have hf : List.take 1 (List.drop 0 items.toList) = [x] := by rw [List.drop_zero, hl]; rfl
  rw [hf]
  rw [if_neg (by simp)]
  have k1 : ∀ b o, s.heap.get? b = some o → h₁.get? b = some o := fun b o e => hs₁.extBut b o (Nat.ne_of_lt (Heap.lt_size e)) (Heap.get?_push_of_some _ e)
  have ht₁ : h₁.IsList t items := by
    obtain ⟨o, ho, r⟩ := ht
    exact ⟨o, k1 _ _ ho, r⟩
  have hsz : s.heap.objs.size < h₁.objs.size := by obtain ⟨o, e, _⟩ := id hit₁; exact Heap.lt_size e
  have hht : t < h₁.objs.size := by obtain ⟨o, ho, _⟩ := ht₁; exact Heap.lt_size ho
  refine wpAny_bind (wpAny_holding (wpAny_collect_iter (T := "list_iterator") (.inr (.inr (.inl rfl))) (walksS_lst (A := A.in1) hh s.heap.objs.size t hlt items 1) (fun i s st => st.1.typeIs) ⟨by simpa using hit₁, ht₁, hpos⟩ (fun b hb => ?_) (by simp) (fun s' acc mv ia => ?_) (by omega)))
  · rcases List.mem_cons.mp hb with e | hb
    · rw [e]; exact hsz
    · simp at hb; rw [hb]; exact hht
  · have ea : acc.toList = items.toList.drop 1 := by
      obtain ⟨h1, h2⟩ := ia
      apply List.ext_getElem?
      intro j
      by_cases hj : j < acc.size
      · have e1 : acc[j]? = some acc[j] := by simp [hj]
        have e2 := h2 j _ e1
        rw [Array.getElem?_toList, e1, List.getElem?_drop, Array.getElem?_toList, show 1 + j = j + 1 by omega]
        exact e2.symm
      · rw [Array.getElem?_toList, Array.getElem?_eq_none (by omega), List.getElem?_eq_none]
        rw [List.length_drop, Array.length_toList]; omega
    rw [ea]
    simp only [show 2 - 1 - 1 = 0 from rfl, Nat.not_lt_zero, if_false, Nat.sub_zero, List.take_length, List.drop_length, List.append_nil]
    refine wpAny_bind (wpAny_newList ?_ ?_)
    · refine wpAny_pure ?_
      refine hQ s' (fun b o e => mv.heap b o (fun z => ?_) (k1 b o e)) mv.gens.symm mv.os
      simp at z
      exact absurd (Heap.lt_size e) (by rw [z]; exact Nat.lt_irrefl _)
    · rw [List.length_drop, Array.length_toList]; omega
end
/-- the target x, *rest -/
def gStarL (K : PySem.W.Frag) (i j : Nat) : TG := fun v σ H Q => ∃ a x xs, v = .ref a ∧ SqL K H a (x :: xs) ∧ ∀ p, H p = none → Q ((σ.set i (some x)).set j (some (.ref p))) (upd H p (.lst xs))
theorem pg_starL {X : Cx} {x y : Str} {i j k : Nat} {p1 p2 p3 pos : Pos} (hc : X.calm = true) (hN : X.N.Nodup) (hi : X.N[i]? = some x) (hj : X.N[j]? = some y) (hx : Loc X.env.scope x) (hy : Loc X.env.scope y) (hf : ∀ z, X.fn z = true) :
    PG X (.Tuple [.Name x p1, .Starred (.Name y p2) p3] k pos) (gStarL X.K i j) := by
  refine ⟨fun pins s σ H v u Q I r hw => ?_⟩
  obtain ⟨a, z, zs, e1, hq, hw⟩ := hw
  subst e1
  cases r
  obtain ⟨its, rv, pl, hz⟩ := I.list hq
  have ht := pl.isList
  cases rv with
  | cons rz rzs =>
    rename_i uz uzs
    rw [assign_Tuple]
    refine wpAny_bind (wpAny_standAt ?_)
    unfold unpack
    show wpAny _ _ (holding [.ref a] (unpackItems (.ref a) 2 (some 1)) >>= fun l => assignInOrder [assign (.Name x p1) X.env, assign (.Name y p2) X.env] l) _ _ _
    refine wpAny_bind (wpAny_holding (unpackItems_starL (I.ok.hd hc) (show s.heap.IsList a (uz :: uzs).toArray from ht) (x := uz) (by simp) (by have h1 := rzs.length; simp at hz ⊢; omega) fun s' k g o => ?_))
    have I1 : Inv X pins σ H s' := I.call' (ch := []) o (Un.kept k) (I.hok.kept k) (by rw [g]; exact I.bare) fun _ z => nomatch z
    have I2 : Inv X pins σ (upd H s'.heap.objs.size (.lst zs)) { s' with heap := s'.heap.push { cls := .type "list", data := .seq ((uz :: uzs).toArray.toList.drop 1).toArray } } :=
      I1.laid (t' := s'.toks) (o := .lst zs) (fun b ob q => Heap.get?_push_of_some _ q) (Nat.le_refl _) ⟨by have := hz; simp at this; omega, uzs, _, rzs, by simpa using Heap.get?_push_size s'.heap rfl⟩
    refine assignInOrder_cons (wpAny_assign_Name (store_ok I2 hN hi hx rz (fun s2 I3 => ?_) (.inl (hf x))))
    refine assignInOrder_cons (wpAny_assign_Name (store_ok (v := .ref s'.heap.objs.size) I3 hN hj hy rfl (fun s3 I4 => ?_) (.inl (hf y))))
    exact assignInOrder_nil ⟨_, _, I4, hw _ (I1.hok.fresh (Nat.le_refl _))⟩
end L2
namespace Mi
open PySem PySem.Spec L2
section
variable {cl : Nat → Addr} {X : Cx} {W : WX} {pos : Pos} {a b c o : Expr} {ea eb : EE}
def sStarL (i j : Nat) (e : EE) : ES := fun env st => (e env st).bindS env fun v s => match v with
  | .d (.list (x :: xs)) => .ok (.nx ((env.set i (some (.d x))).set j (some (.d (.list xs))))) s
  | _ => .bad
theorem ss_starL {x y : Str} {k : Nat} {p1 p2 p3 ptup : Pos} (i j : Nat) (hc : X.calm = true) (hN : X.N.Nodup) (hi : X.N[i]? = some x) (hj : X.N[j]? = some y) (hx : Loc X.env.scope x) (hy : Loc X.env.scope y) (hf : ∀ z, X.fn z = true) (he : SE cl X W a ea)
    (hs : swapsWithSole [.Tuple [.Name x p1, .Starred (.Name y p2) p3] k ptup] a pos.line X.env = pure false := by rfl) (hw : swappedStores [.Tuple [.Name x p1, .Starred (.Name y p2) p3] k ptup] a X.env = pure none := by rfl) :
    SS cl X W (.Assign [.Tuple [.Name x p1, .Starred (.Name y p2) p3] k ptup] a pos) (sStarL i j ea) := (ps_asg he (pg_starL hc hN hi hj hx hy hf) hs hw rfl).impM fun D σ H h => by
  obtain ⟨G, m, env, st, rl, en, p⟩ := h
  refine ⟨G, m, env, st, rl, en, Post.bindS en p fun v s1 x H1 G1 m1 _ e1 rl1 r1 p1 => ?_⟩
  split at p1
  · rename_i z zs _
    cases r1 with
    | d r =>
      cases r with
      | lst q ra =>
        cases ra with
        | cons rz rzs =>
          refine ⟨_, _, _, rfl, SqL.of (rl1.sub _ _ q), fun p hp => ?_⟩
          obtain ⟨r2, ex⟩ := rl1.laid hp (.lst _)
          exact p1 _ _ _ _ ex r2 ((((en.ext e1).ext ex).set (.d (rz.sub ex.sub)) i).set (.d (.lst upd_same (rzs.sub ex.sub))) j)
  · exact p1.elim
end
theorem starL_ok {i j : Nat} {e : EE} {env : Ev} {st s : Sto} {x : D} {xs : List D} (h : e env st = .ok (.d (.list (x :: xs))) s) : sStarL i j e env st = .ok (.nx ((env.set i (some (.d x))).set j (some (.d (.list xs))))) s := by
  unfold sStarL
  rw [h]
  rfl
end Mi
end

section
set_option maxRecDepth 100000
set_option autoImplicit false
/-! xs[a:c] = a list -/
namespace Mi
open PySem PySem.Spec L2
section
variable {cl : Nat → Addr} {X : Cx} {W : WX} {pos pos' p2 : Pos} {o value : Expr} {eo ev : EE}
end
/-! {"a": 1, ..}.get(x, k) -/
section
variable {cl : Nat → Addr} {X : Cx} {W : WX} {pos pd apos p3 : Pos} {a : Expr} {ea : EE}
end
/-! x.split(y), to be changed -/
section
variable {cl : Nat → Addr} {X : Cx} {W : WX} {pos apos : Pos} {o a : Expr} {eo ea : EE}
end
end Mi
end

section
set_option maxRecDepth 100000
set_option maxHeartbeats 4000000
namespace Lw
open PySem PySem.Spec L2 Mi
def cdef (s : Stmt) : Stmt := match s with
  | .ClassDef _ _ _ b _ _ _ _ _ _ _ => b.getD 0 (.Pass ⟨0, 0, 0, 0⟩)
  | _ => .Pass ⟨0, 0, 0, 0⟩
def top (i : Nat) : Stmt := PySem.Challenge.pw_mindsteps_k31_whole_case_texts.main.body.getD i (.Pass ⟨0, 0, 0, 0⟩)
structure Tb (cl : Nat → Addr) (P : Program) (w : World) (K : PySem.W.Frag) (mg : Str → Option Value) (base : Heap) (k : Nat) (F : Nat → FN) : Prop where
  xt : XT K mg cl (List.range 18)
  i4 : InitOk cl P w K mg base 4 "saying"
  i14 : InitOk cl P w K mg base 14 "number"
  wh : WhOk (List.range 18) cl P w K mg base 1 "_law_which"
  f_is_whole : FokP cl P w K mg base k "is_whole" 3 (F 0)
  f_are_numbers : FokP cl P w K mg base k "are_numbers" 2 (F 1)
  f_are_views : FokP cl P w K mg base k "are_views" 3 (F 2)
  f_is_model : FokP cl P w K mg base k "is_model" 1 (F 3)
  f_is_case : FokP cl P w K mg base k "is_case" 1 (F 4)
  f_need_case : FokP cl P w K mg base k "need_case" 1 (F 5)
  f_number_in : FokP cl P w K mg base k "number_in" 1 (F 6)
  f_numbers_text : FokP cl P w K mg base k "numbers_text" 1 (F 7)
  f_row_text : FokP cl P w K mg base k "row_text" 1 (F 8)
  f_case_text : FokP cl P w K mg base k "case_text" 1 (F 9)
  f_shown_case : FokP cl P w K mg base k "shown_case" 1 (F 10)
  f_numbers_in : FokP cl P w K mg base k "numbers_in" 1 (F 11)
  f_row_in : FokP cl P w K mg base k "row_in" 1 (F 12)
  f_read_case : FokP cl P w K mg base k "read_case" 1 (F 13)
  f__law_cell_at : FokP cl P w K mg base k "_law_cell_at" 2 (F 14)
  f__law_mixed : FokP cl P w K mg base k "_law_mixed" 3 (F 15)
  f__law_draw : FokP cl P w K mg base k "_law_draw" 3 (F 16)
  f__law_pick : FokP cl P w K mg base k "_law_pick" 3 (F 17)
  f__law_views : FokP cl P w K mg base k "_law_views" 4 (F 18)
  f__law_case : FokP cl P w K mg base k "_law_case" 3 (F 19)
  f__law_ask : FokP cl P w K mg base k "_law_ask" 1 (F 21)
  f__law_some : FokP cl P w K mg base k "_law_some" 1 (F 22)
  f__law_text : FokP cl P w K mg base k "_law_text" 1 (F 23)
  f__law_numbers : FokP cl P w K mg base k "_law_numbers" 1 (F 24)
  f__law_parse : FokP cl P w K mg base k "_law_parse" 1 (F 25)
  f_law : FokP cl P w K mg base k "law" 1 (F 26)
structure Cs (C : RC) (mg : Str → Option Value) : Prop where
  c_WORLDS : GC C mg "WORLDS" (.int 200)
  c_FIGURES : GC C mg "FIGURES" (.str "0123456789")
section
variable {cl : Nat → Addr} {P : Program} {w : World} {K : PySem.W.Frag} {mg : Str → Option Value} {base : Heap} {k : Nat} {F : Nat → FN} {fa : Addr}
def m_is_whole (F : Nat → FN) : ES :=
  (sRet (eAnd (eIsi "int" (eVar 0)) (eAnd (eNot (eIsi "bool" (eVar 0))) (eChain (pur2 (dI iLe)) (pur2 (dI iLe)) (eVar 1) (eVar 0) (eVar 2)))))
theorem sc_is_whole : FnScope ["thing", "low", "high"] ["thing", "low", "high"] (defScope (top 21)) := ⟨rfl, rfl, rfl, by decide +kernel, rfl, by decide +kernel, by decide +kernel⟩
theorem b_is_whole (T : Tb cl P w K mg base (k + 3) F) (B : Bl mg) (C : Cs ⟨K, w, cl⟩ mg) (cdv : Value) (A : Around) (outer : List Env) (s : Shared) (H : Hp) (E : XK) (hr : Room (k + 3) (cxOf (L2N.CX P w) P w K mg base ["thing", "low", "high"] "is_whole" (defScope (top 21)) fa cdv A outer s H E).A) (tk : L2N.Takes (cxOf (L2N.CX P w) P w K mg base ["thing", "low", "high"] "is_whole" (defScope (top 21)) fa cdv A outer s H E) (fun cls d _ H' => E cls d H')) (hp : PassesOwn (model P w) (cxOf (L2N.CX P w) P w K mg base ["thing", "low", "high"] "is_whole" (defScope (top 21)) fa cdv A outer s H E).A (cxOf (L2N.CX P w) P w K mg base ["thing", "low", "high"] "is_whole" (defScope (top 21)) fa cdv A outer s H E).env (cxOf (L2N.CX P w) P w K mg base ["thing", "low", "high"] "is_whole" (defScope (top 21)) fa cdv A outer s H E).xe) :
    SSs cl (cxOf (L2N.CX P w) P w K mg base ["thing", "low", "high"] "is_whole" (defScope (top 21)) fa cdv A outer s H E) (fun cls d _ H' => E cls d H') (defBody (top 21)) (m_is_whole F) := by
  have hu := units_of hr
  have hr2 := hr.mono (show 2 ≤ k + 3 by omega)
  have hr1 := hr.mono (show 1 ≤ k + 3 by omega)
  exact (ss_one (ss_ret (se_and (se_isi (se_var 0) (by rfl) B.isinstance_ (by rfl) B.int_ bb_int) (se_and (se_not (se_isi (se_var 0) (by rfl) B.isinstance_ (by rfl) B.bool_ bb_bool)) (se_one (se_chain o_le o_le (se_var 1) (se_var 0) (se_var 2)))))))
def m_are_numbers (F : Nat → FN) : ES :=
  (sSeq (sIf (kOr (kNot (eTst (eIsi "tuple" (eVar 0)))) (kNot (eTst (eCB bAll (aCons (eLc [2] (.nm 2) (iSeq (eVar 0)) kYes (eCl 3 (F 0) (aCons (eVar 2) (aCons (eC (.int 0)) (aCons (eOp (pur2 (dI iSub)) (eVar 1) (eC (.int 1))) aNil))))) aNil))))) (sRet (eC (.bool false))) sNx)
    (sRet (eCB bAll (aCons (eLc [2, 3] (.tp [2, 3]) (iZip (aCons (eVar 0) (aCons (eSl (eVar 0) (oSome (eC (.int 1))) oNone) aNil))) kYes (eOp (pur2 (dI iLt)) (eVar 2) (eVar 3))) aNil))))
theorem sc_are_numbers : FnScope ["thing", "many", "one", "other"] ["thing", "many"] (defScope (top 22)) := ⟨rfl, rfl, rfl, by decide +kernel, rfl, by decide +kernel, by decide +kernel⟩
theorem b_are_numbers (T : Tb cl P w K mg base (k + 3) F) (B : Bl mg) (C : Cs ⟨K, w, cl⟩ mg) (cdv : Value) (A : Around) (outer : List Env) (s : Shared) (H : Hp) (E : XK) (hr : Room (k + 3) (cxOf (L2N.CX P w) P w K mg base ["thing", "many", "one", "other"] "are_numbers" (defScope (top 22)) fa cdv A outer s H E).A) (tk : L2N.Takes (cxOf (L2N.CX P w) P w K mg base ["thing", "many", "one", "other"] "are_numbers" (defScope (top 22)) fa cdv A outer s H E) (fun cls d _ H' => E cls d H')) (hp : PassesOwn (model P w) (cxOf (L2N.CX P w) P w K mg base ["thing", "many", "one", "other"] "are_numbers" (defScope (top 22)) fa cdv A outer s H E).A (cxOf (L2N.CX P w) P w K mg base ["thing", "many", "one", "other"] "are_numbers" (defScope (top 22)) fa cdv A outer s H E).env (cxOf (L2N.CX P w) P w K mg base ["thing", "many", "one", "other"] "are_numbers" (defScope (top 22)) fa cdv A outer s H E).xe) :
    SSs cl (cxOf (L2N.CX P w) P w K mg base ["thing", "many", "one", "other"] "are_numbers" (defScope (top 22)) fa cdv A outer s H E) (fun cls d _ H' => E cls d H') (defBody (top 22)) (m_are_numbers F) := by
  have hu := units_of hr
  have hr2 := hr.mono (show 2 ≤ k + 3 by omega)
  have hr1 := hr.mono (show 1 ≤ k + 3 by omega)
  exact (ss_cons (ss_if (st_bool (sw_or (st_not (st_val (se_isi (se_var 0) (by rfl) B.isinstance_ (by rfl) B.tuple_ bb_tuple))) (sw_one_or (st_not (st_val (se_callB (c_all rfl) (by rfl) B.all_ bb_all (sa_cons (se_lc (own := [("one", 2)]) rfl sc_are_numbers.nd (si_seq (se_var 0)) (blkOk_by (by kernel_rfl)) (fun _ _ _ _ _ => (sg_name 2 sc_are_numbers.nd (by rfl) (by first | exact Or.inl rfl | exact Or.inr rfl))) (fun _ _ _ _ _ => sts_nil) (fun _ _ _ _ _ => (se_cl T.f_is_whole hr takes0N (by rfl) (sa_cons (se_var 2) (sa_cons se_int (sa_cons (se_op o_sub (se_var 1) se_int) sa_nil))))) (by decide)) sa_nil))))))) (ss_one (ss_ret se_bl)) ss_nil)
    (ss_one (ss_ret (se_callB (c_all rfl) (by rfl) B.all_ bb_all (sa_cons (se_lc (own := [("one", 2), ("other", 3)]) rfl sc_are_numbers.nd (si_zip (by rfl) B.zip_ (sa_cons (se_var 0) (sa_cons (se_slice (se_var 0) (so_some se_int) so_none) sa_nil))) (blkOk_by (by kernel_rfl)) (fun _ _ _ _ _ => (sg_tup (by rfl) (sgs_cons 2 sc_are_numbers.nd (by rfl) (by first | exact Or.inl rfl | exact Or.inr rfl) (sgs_cons 3 sc_are_numbers.nd (by rfl) (by first | exact Or.inl rfl | exact Or.inr rfl) sgs_nil)))) (fun _ _ _ _ _ => sts_nil) (fun _ _ _ _ _ => (se_cmp o_lt (se_var 2) (se_var 3) (by rfl))) (by decide)) sa_nil)))))
def m_are_views (F : Nat → FN) : ES :=
  (sSeq (sIf (kOr (kNot (eTst (eIsi "tuple" (eVar 0)))) (eTst (eOp vNe (eCB bLen (aCons (eVar 0) aNil)) (eVar 1)))) (sRet (eC (.bool false))) sNx)
    (sSeq (sIf (kNot (eTst (eCB bAll (aCons (eLc [3] (.nm 3) (iSeq (eVar 0)) kYes (eAnd (eIsi "tuple" (eVar 3)) (eOp vEq (eCB bLen (aCons (eVar 3) aNil)) (eVar 2)))) aNil)))) (sRet (eC (.bool false))) sNx)
    (sRet (eCB bAll (aCons (eLc2 [3, 4] [4] (.nm 3) (iSeq (eVar 0)) kYes (.nm 4) (iSeq (eVar 3)) kYes (eCl 2 (F 1) (aCons (eVar 4) (aCons (eVar 2) aNil)))) aNil)))))
theorem sc_are_views : FnScope ["thing", "minds", "many", "own", "some"] ["thing", "minds", "many"] (defScope (top 23)) := ⟨rfl, rfl, rfl, by decide +kernel, rfl, by decide +kernel, by decide +kernel⟩
theorem b_are_views (T : Tb cl P w K mg base (k + 3) F) (B : Bl mg) (C : Cs ⟨K, w, cl⟩ mg) (cdv : Value) (A : Around) (outer : List Env) (s : Shared) (H : Hp) (E : XK) (hr : Room (k + 3) (cxOf (L2N.CX P w) P w K mg base ["thing", "minds", "many", "own", "some"] "are_views" (defScope (top 23)) fa cdv A outer s H E).A) (tk : L2N.Takes (cxOf (L2N.CX P w) P w K mg base ["thing", "minds", "many", "own", "some"] "are_views" (defScope (top 23)) fa cdv A outer s H E) (fun cls d _ H' => E cls d H')) (hp : PassesOwn (model P w) (cxOf (L2N.CX P w) P w K mg base ["thing", "minds", "many", "own", "some"] "are_views" (defScope (top 23)) fa cdv A outer s H E).A (cxOf (L2N.CX P w) P w K mg base ["thing", "minds", "many", "own", "some"] "are_views" (defScope (top 23)) fa cdv A outer s H E).env (cxOf (L2N.CX P w) P w K mg base ["thing", "minds", "many", "own", "some"] "are_views" (defScope (top 23)) fa cdv A outer s H E).xe) :
    SSs cl (cxOf (L2N.CX P w) P w K mg base ["thing", "minds", "many", "own", "some"] "are_views" (defScope (top 23)) fa cdv A outer s H E) (fun cls d _ H' => E cls d H') (defBody (top 23)) (m_are_views F) := by
  have hu := units_of hr
  have hr2 := hr.mono (show 2 ≤ k + 3 by omega)
  have hr1 := hr.mono (show 1 ≤ k + 3 by omega)
  exact (ss_cons (ss_if (st_bool (sw_or (st_not (st_val (se_isi (se_var 0) (by rfl) B.isinstance_ (by rfl) B.tuple_ bb_tuple))) (sw_one_or (st_cmp (o_ne hu) (se_callB c_len (by rfl) B.len_ bb_len (sa_cons (se_var 0) sa_nil)) (se_var 1) (by rfl))))) (ss_one (ss_ret se_bl)) ss_nil)
    (ss_cons (ss_if (st_not (st_val (se_callB (c_all rfl) (by rfl) B.all_ bb_all (sa_cons (se_lc (own := [("own", 3)]) rfl sc_are_views.nd (si_seq (se_var 0)) (blkOk_by (by kernel_rfl)) (fun _ _ _ _ _ => (sg_name 3 sc_are_views.nd (by rfl) (by first | exact Or.inl rfl | exact Or.inr rfl))) (fun _ _ _ _ _ => sts_nil) (fun _ _ _ _ _ => (se_and (se_isi (se_var 3) (by rfl) B.isinstance_ (by rfl) B.tuple_ bb_tuple) (se_one (se_cmp (o_eq hu) (se_callB c_len (by rfl) B.len_ bb_len (sa_cons (se_var 3) sa_nil)) (se_var 2) (by rfl))))) (by decide)) sa_nil)))) (ss_one (ss_ret se_bl)) ss_nil)
    (ss_one (ss_ret (se_callB (c_all rfl) (by rfl) B.all_ bb_all (sa_cons (se_lc2 (own := [("own", 3), ("some", 4)]) (vs1 := [4]) rfl sc_are_views.nd (si_seq (se_var 0)) (blkOk_by (by kernel_rfl)) (by decide) (fun _ _ _ _ _ => (sg_name 3 sc_are_views.nd (by rfl) (by first | exact Or.inl rfl | exact Or.inr rfl))) (fun _ _ _ _ _ => sts_nil) (fun _ _ _ _ _ => (si_seq (se_var 3))) (fun _ _ _ _ _ => (sg_name 4 sc_are_views.nd (by rfl) (by first | exact Or.inl rfl | exact Or.inr rfl))) (fun _ _ _ _ _ => sts_nil) (fun _ _ _ _ _ => (se_cl T.f_are_numbers hr takes0N (by rfl) (sa_cons (se_var 4) (sa_cons (se_var 2) sa_nil)))) (by decide) (by decide)) sa_nil))))))
def m_is_model (F : Nat → FN) : ES :=
  (sSeq (sIf (kOr (kNot (eTst (eIsi "tuple" (eVar 0)))) (kOr (eTst (eOp vNe (eCB bLen (aCons (eVar 0) aNil)) (eC (.int 4)))) (kOr (kNot (eTst (eCl 3 (F 0) (aCons (eOp vIx (eVar 0) (eC (.int 0))) (aCons (eC (.int 1)) (aCons (eC (.int 3)) aNil)))))) (kNot (eTst (eCl 3 (F 0) (aCons (eOp vIx (eVar 0) (eC (.int 1))) (aCons (eC (.int 1)) (aCons (eC (.int 4)) aNil))))))))) (sRet (eC (.bool false))) sNx)
    (sSeq (sSet 1 (eOp vIx (eVar 0) (eC (.int 2))))
    (sSeq (sIf (kOr (kNot (eTst (eIsi "tuple" (eVar 1)))) (kNot (eTst (eChain (pur2 (dI iLe)) (pur2 (dI iLe)) (eC (.int 1)) (eCB bLen (aCons (eVar 1) aNil)) (eC (.int 200)))))) (sRet (eC (.bool false))) sNx)
    (sRet (eAnd (eCB bAll (aCons (eLc [2] (.nm 2) (iSeq (eVar 1)) kYes (eCl 2 (F 1) (aCons (eVar 2) (aCons (eOp vIx (eVar 0) (eC (.int 1))) aNil)))) aNil)) (eCl 3 (F 2) (aCons (eOp vIx (eVar 0) (eC (.int 3))) (aCons (eOp vIx (eVar 0) (eC (.int 0))) (aCons (eCB bLen (aCons (eVar 1) aNil)) aNil)))))))))
theorem sc_is_model : FnScope ["thing", "worlds", "world"] ["thing"] (defScope (top 24)) := ⟨rfl, rfl, rfl, by decide +kernel, rfl, by decide +kernel, by decide +kernel⟩
theorem b_is_model (T : Tb cl P w K mg base (k + 3) F) (B : Bl mg) (C : Cs ⟨K, w, cl⟩ mg) (cdv : Value) (A : Around) (outer : List Env) (s : Shared) (H : Hp) (E : XK) (hr : Room (k + 3) (cxOf (L2N.CX P w) P w K mg base ["thing", "worlds", "world"] "is_model" (defScope (top 24)) fa cdv A outer s H E).A) (tk : L2N.Takes (cxOf (L2N.CX P w) P w K mg base ["thing", "worlds", "world"] "is_model" (defScope (top 24)) fa cdv A outer s H E) (fun cls d _ H' => E cls d H')) (hp : PassesOwn (model P w) (cxOf (L2N.CX P w) P w K mg base ["thing", "worlds", "world"] "is_model" (defScope (top 24)) fa cdv A outer s H E).A (cxOf (L2N.CX P w) P w K mg base ["thing", "worlds", "world"] "is_model" (defScope (top 24)) fa cdv A outer s H E).env (cxOf (L2N.CX P w) P w K mg base ["thing", "worlds", "world"] "is_model" (defScope (top 24)) fa cdv A outer s H E).xe) :
    SSs cl (cxOf (L2N.CX P w) P w K mg base ["thing", "worlds", "world"] "is_model" (defScope (top 24)) fa cdv A outer s H E) (fun cls d _ H' => E cls d H') (defBody (top 24)) (m_is_model F) := by
  have hu := units_of hr
  have hr2 := hr.mono (show 2 ≤ k + 3 by omega)
  have hr1 := hr.mono (show 1 ≤ k + 3 by omega)
  exact (ss_cons (ss_if (st_bool (sw_or (st_not (st_val (se_isi (se_var 0) (by rfl) B.isinstance_ (by rfl) B.tuple_ bb_tuple))) (sw_or (st_cmp (o_ne hu) (se_callB c_len (by rfl) B.len_ bb_len (sa_cons (se_var 0) sa_nil)) se_int (by rfl)) (sw_or (st_not (st_val (se_cl T.f_is_whole hr tk (by rfl) (sa_cons (se_ix (se_var 0) se_int (fun _ _ => rfl)) (sa_cons se_int (sa_cons se_int sa_nil)))))) (sw_one_or (st_not (st_val (se_cl T.f_is_whole hr tk (by rfl) (sa_cons (se_ix (se_var 0) se_int (fun _ _ => rfl)) (sa_cons se_int (sa_cons se_int sa_nil))))))))))) (ss_one (ss_ret se_bl)) ss_nil)
    (ss_cons (ss_set 1 sc_is_model.nd (by rfl) (by first | exact Or.inl rfl | exact Or.inr rfl) (se_ix (se_var 0) se_int (fun _ _ => rfl)))
    (ss_cons (ss_if (st_bool (sw_or (st_not (st_val (se_isi (se_var 1) (by rfl) B.isinstance_ (by rfl) B.tuple_ bb_tuple))) (sw_one_or (st_not (st_chain o_le o_le se_int (se_callB c_len (by rfl) B.len_ bb_len (sa_cons (se_var 1) sa_nil)) (se_gc C.c_WORLDS (by rfl))))))) (ss_one (ss_ret se_bl)) ss_nil)
    (ss_one (ss_ret (se_and (se_callB (c_all rfl) (by rfl) B.all_ bb_all (sa_cons (se_lc (own := [("world", 2)]) rfl sc_is_model.nd (si_seq (se_var 1)) (blkOk_by (by kernel_rfl)) (fun _ _ _ _ _ => (sg_name 2 sc_is_model.nd (by rfl) (by first | exact Or.inl rfl | exact Or.inr rfl))) (fun _ _ _ _ _ => sts_nil) (fun _ _ _ _ _ => (se_cl T.f_are_numbers hr takes0N (by rfl) (sa_cons (se_var 2) (sa_cons (se_ix (se_var 0) se_int (fun _ _ => rfl)) sa_nil)))) (by decide)) sa_nil)) (se_one (se_cl T.f_are_views hr tk (by rfl) (sa_cons (se_ix (se_var 0) se_int (fun _ _ => rfl)) (sa_cons (se_ix (se_var 0) se_int (fun _ _ => rfl)) (sa_cons (se_callB c_len (by rfl) B.len_ bb_len (sa_cons (se_var 1) sa_nil)) sa_nil)))))))))))
def m_is_case (F : Nat → FN) : ES :=
  (sSeq (sIf (kOr (kNot (eTst (eIsi "tuple" (eVar 0)))) (kOr (eTst (eOp vNe (eCB bLen (aCons (eVar 0) aNil)) (eC (.int 2)))) (kNot (eTst (eCl 1 (F 3) (aCons (eOp vIx (eVar 0) (eC (.int 0))) aNil)))))) (sRet (eC (.bool false))) sNx)
    (sRet (eCl 3 (F 0) (aCons (eOp vIx (eVar 0) (eC (.int 1))) (aCons (eC (.int 0)) (aCons (eOp (pur2 (dI iSub)) (eCB bLen (aCons (eOp vIx (eOp vIx (eVar 0) (eC (.int 0))) (eC (.int 2))) aNil)) (eC (.int 1))) aNil))))))
theorem sc_is_case : FnScope ["thing"] ["thing"] (defScope (top 25)) := ⟨rfl, rfl, rfl, by decide +kernel, rfl, by decide +kernel, by decide +kernel⟩
theorem b_is_case (T : Tb cl P w K mg base (k + 3) F) (B : Bl mg) (C : Cs ⟨K, w, cl⟩ mg) (cdv : Value) (A : Around) (outer : List Env) (s : Shared) (H : Hp) (E : XK) (hr : Room (k + 3) (cxOf (L2N.CX P w) P w K mg base ["thing"] "is_case" (defScope (top 25)) fa cdv A outer s H E).A) (tk : L2N.Takes (cxOf (L2N.CX P w) P w K mg base ["thing"] "is_case" (defScope (top 25)) fa cdv A outer s H E) (fun cls d _ H' => E cls d H')) (hp : PassesOwn (model P w) (cxOf (L2N.CX P w) P w K mg base ["thing"] "is_case" (defScope (top 25)) fa cdv A outer s H E).A (cxOf (L2N.CX P w) P w K mg base ["thing"] "is_case" (defScope (top 25)) fa cdv A outer s H E).env (cxOf (L2N.CX P w) P w K mg base ["thing"] "is_case" (defScope (top 25)) fa cdv A outer s H E).xe) :
    SSs cl (cxOf (L2N.CX P w) P w K mg base ["thing"] "is_case" (defScope (top 25)) fa cdv A outer s H E) (fun cls d _ H' => E cls d H') (defBody (top 25)) (m_is_case F) := by
  have hu := units_of hr
  have hr2 := hr.mono (show 2 ≤ k + 3 by omega)
  have hr1 := hr.mono (show 1 ≤ k + 3 by omega)
  exact (ss_cons (ss_if (st_bool (sw_or (st_not (st_val (se_isi (se_var 0) (by rfl) B.isinstance_ (by rfl) B.tuple_ bb_tuple))) (sw_or (st_cmp (o_ne hu) (se_callB c_len (by rfl) B.len_ bb_len (sa_cons (se_var 0) sa_nil)) se_int (by rfl)) (sw_one_or (st_not (st_val (se_cl T.f_is_model hr tk (by rfl) (sa_cons (se_ix (se_var 0) se_int (fun _ _ => rfl)) sa_nil)))))))) (ss_one (ss_ret se_bl)) ss_nil)
    (ss_one (ss_ret (se_cl T.f_is_whole hr tk (by rfl) (sa_cons (se_ix (se_var 0) se_int (fun _ _ => rfl)) (sa_cons se_int (sa_cons (se_op o_sub (se_callB c_len (by rfl) B.len_ bb_len (sa_cons (se_ix (se_ix (se_var 0) se_int (fun _ _ => rfl)) se_int (fun _ _ => rfl)) sa_nil)) se_int) sa_nil)))))))
def m_need_case (F : Nat → FN) : ES :=
  (sIf (kNot (eTst (eCl 1 (F 4) (aCons (eVar 0) aNil)))) (sRaise0 1) sNx)
theorem sc_need_case : FnScope ["thing"] ["thing"] (defScope (top 26)) := ⟨rfl, rfl, rfl, by decide +kernel, rfl, by decide +kernel, by decide +kernel⟩
theorem b_need_case (T : Tb cl P w K mg base (k + 3) F) (B : Bl mg) (C : Cs ⟨K, w, cl⟩ mg) (cdv : Value) (A : Around) (outer : List Env) (s : Shared) (H : Hp) (E : XK) (hr : Room (k + 3) (cxOf (L2N.CX P w) P w K mg base ["thing"] "need_case" (defScope (top 26)) fa cdv A outer s H E).A) (tk : L2N.Takes (cxOf (L2N.CX P w) P w K mg base ["thing"] "need_case" (defScope (top 26)) fa cdv A outer s H E) (fun cls d _ H' => E cls d H')) (hp : PassesOwn (model P w) (cxOf (L2N.CX P w) P w K mg base ["thing"] "need_case" (defScope (top 26)) fa cdv A outer s H E).A (cxOf (L2N.CX P w) P w K mg base ["thing"] "need_case" (defScope (top 26)) fa cdv A outer s H E).env (cxOf (L2N.CX P w) P w K mg base ["thing"] "need_case" (defScope (top 26)) fa cdv A outer s H E).xe) :
    SSs cl (cxOf (L2N.CX P w) P w K mg base ["thing"] "need_case" (defScope (top 26)) fa cdv A outer s H E) (fun cls d _ H' => E cls d H') (defBody (top 26)) (m_need_case F) := by
  have hu := units_of hr
  have hr2 := hr.mono (show 2 ≤ k + 3 by omega)
  have hr1 := hr.mono (show 1 ≤ k + 3 by omega)
  exact (ss_one (ss_if (st_not (st_val (se_cl T.f_is_case hr tk (by rfl) (sa_cons (se_var 0) sa_nil)))) (ss_one (ss_raise0 T.xt 1 (by decide) (by decide) (by decide) rfl rfl tk (by rfl))) ss_nil))
def m_number_in (F : Nat → FN) : ES :=
  (sSeq (sIf (kOr (eTst (eOp vEq (eVar 0) (eC (.str "")))) (kOr (eTst (eOp (pur2 (dI iGt)) (eCB bLenS (aCons (eVar 0) aNil)) (eC (.int 3)))) (kOr (kNot (eTst (eCB bAll (aCons (eLc [1] (.nm 1) (iTxt (eVar 0)) kYes (eOp vInSg (eVar 1) (eC (.str "0123456789")))) aNil)))) (eTst (eOp vNe (eVar 0) (eCB bStrI (aCons (eCB bIntS (aCons (eVar 0) aNil)) aNil))))))) (sRet (eC .none)) sNx)
    (sRet (eCB bIntS (aCons (eVar 0) aNil))))
theorem sc_number_in : FnScope ["word", "sign"] ["word"] (defScope (top 29)) := ⟨rfl, rfl, rfl, by decide +kernel, rfl, by decide +kernel, by decide +kernel⟩
theorem b_number_in (T : Tb cl P w K mg base (k + 3) F) (B : Bl mg) (C : Cs ⟨K, w, cl⟩ mg) (cdv : Value) (A : Around) (outer : List Env) (s : Shared) (H : Hp) (E : XK) (hr : Room (k + 3) (cxOf (L2N.CX P w) P w K mg base ["word", "sign"] "number_in" (defScope (top 29)) fa cdv A outer s H E).A) (tk : L2N.Takes (cxOf (L2N.CX P w) P w K mg base ["word", "sign"] "number_in" (defScope (top 29)) fa cdv A outer s H E) (fun cls d _ H' => E cls d H')) (hp : PassesOwn (model P w) (cxOf (L2N.CX P w) P w K mg base ["word", "sign"] "number_in" (defScope (top 29)) fa cdv A outer s H E).A (cxOf (L2N.CX P w) P w K mg base ["word", "sign"] "number_in" (defScope (top 29)) fa cdv A outer s H E).env (cxOf (L2N.CX P w) P w K mg base ["word", "sign"] "number_in" (defScope (top 29)) fa cdv A outer s H E).xe) :
    SSs cl (cxOf (L2N.CX P w) P w K mg base ["word", "sign"] "number_in" (defScope (top 29)) fa cdv A outer s H E) (fun cls d _ H' => E cls d H') (defBody (top 29)) (m_number_in F) := by
  have hu := units_of hr
  have hr2 := hr.mono (show 2 ≤ k + 3 by omega)
  have hr1 := hr.mono (show 1 ≤ k + 3 by omega)
  exact (ss_cons (ss_if (st_bool (sw_or (st_cmp (o_eq hu) (se_var 0) se_str (by rfl)) (sw_or (st_cmp o_gt (se_callB c_lenS (by rfl) B.len_ bb_len (sa_cons (se_var 0) sa_nil)) se_int (by rfl)) (sw_or (st_not (st_val (se_callB (c_all rfl) (by rfl) B.all_ bb_all (sa_cons (se_lc (own := [("sign", 1)]) rfl sc_number_in.nd (si_txt (se_var 0)) (blkOk_by (by kernel_rfl)) (fun _ _ _ _ _ => (sg_name 1 sc_number_in.nd (by rfl) (by first | exact Or.inl rfl | exact Or.inr rfl))) (fun _ _ _ _ _ => sts_nil) (fun _ _ _ _ _ => (se_cmp o_inSg (se_var 1) (se_gc C.c_FIGURES (by rfl)) (by rfl))) (by decide)) sa_nil)))) (sw_one_or (st_cmp (o_ne hu) (se_var 0) (se_callTy c_strI (by rfl) B.str_ bb_str (sa_cons (se_callTy c_intS (by rfl) B.int_ bb_int (sa_cons (se_var 0) sa_nil)) sa_nil)) (by rfl))))))) (ss_one (ss_ret se_non)) ss_nil)
    (ss_one (ss_ret (se_callTy c_intS (by rfl) B.int_ bb_int (sa_cons (se_var 0) sa_nil)))))
def m_numbers_text (F : Nat → FN) : ES :=
  (sRet (eIf (eTst (eOp vNe (eVar 0) (eTup aNil))) (eJoin (eC (.str " ")) (eLc [1] (.nm 1) (iSeq (eVar 0)) kYes (eCB bStrI (aCons (eVar 1) aNil)))) (eC (.str "-"))))
theorem sc_numbers_text : FnScope ["some", "one"] ["some"] (defScope (top 30)) := ⟨rfl, rfl, rfl, by decide +kernel, rfl, by decide +kernel, by decide +kernel⟩
theorem b_numbers_text (T : Tb cl P w K mg base (k + 3) F) (B : Bl mg) (C : Cs ⟨K, w, cl⟩ mg) (cdv : Value) (A : Around) (outer : List Env) (s : Shared) (H : Hp) (E : XK) (hr : Room (k + 3) (cxOf (L2N.CX P w) P w K mg base ["some", "one"] "numbers_text" (defScope (top 30)) fa cdv A outer s H E).A) (tk : L2N.Takes (cxOf (L2N.CX P w) P w K mg base ["some", "one"] "numbers_text" (defScope (top 30)) fa cdv A outer s H E) (fun cls d _ H' => E cls d H')) (hp : PassesOwn (model P w) (cxOf (L2N.CX P w) P w K mg base ["some", "one"] "numbers_text" (defScope (top 30)) fa cdv A outer s H E).A (cxOf (L2N.CX P w) P w K mg base ["some", "one"] "numbers_text" (defScope (top 30)) fa cdv A outer s H E).env (cxOf (L2N.CX P w) P w K mg base ["some", "one"] "numbers_text" (defScope (top 30)) fa cdv A outer s H E).xe) :
    SSs cl (cxOf (L2N.CX P w) P w K mg base ["some", "one"] "numbers_text" (defScope (top 30)) fa cdv A outer s H E) (fun cls d _ H' => E cls d H') (defBody (top 30)) (m_numbers_text F) := by
  have hu := units_of hr
  have hr2 := hr.mono (show 2 ≤ k + 3 by omega)
  have hr1 := hr.mono (show 1 ≤ k + 3 by omega)
  exact (ss_one (ss_ret (se_if (st_cmp (o_ne hu) (se_var 0) (se_tup sa_nil) (by rfl)) (se_join se_str (se_lc (own := [("one", 1)]) rfl sc_numbers_text.nd (si_seq (se_var 0)) (blkOk_by (by kernel_rfl)) (fun _ _ _ _ _ => (sg_name 1 sc_numbers_text.nd (by rfl) (by first | exact Or.inl rfl | exact Or.inr rfl))) (fun _ _ _ _ _ => sts_nil) (fun _ _ _ _ _ => (se_callTy c_strI (by rfl) B.str_ bb_str (sa_cons (se_var 1) sa_nil))) (by decide))) se_str)))
def m_row_text (F : Nat → FN) : ES :=
  (sRet (eJoin (eC (.str ", ")) (eLc [1] (.nm 1) (iSeq (eVar 0)) kYes (eCl 1 (F 7) (aCons (eVar 1) aNil)))))
theorem sc_row_text : FnScope ["rows", "some"] ["rows"] (defScope (top 31)) := ⟨rfl, rfl, rfl, by decide +kernel, rfl, by decide +kernel, by decide +kernel⟩
theorem b_row_text (T : Tb cl P w K mg base (k + 3) F) (B : Bl mg) (C : Cs ⟨K, w, cl⟩ mg) (cdv : Value) (A : Around) (outer : List Env) (s : Shared) (H : Hp) (E : XK) (hr : Room (k + 3) (cxOf (L2N.CX P w) P w K mg base ["rows", "some"] "row_text" (defScope (top 31)) fa cdv A outer s H E).A) (tk : L2N.Takes (cxOf (L2N.CX P w) P w K mg base ["rows", "some"] "row_text" (defScope (top 31)) fa cdv A outer s H E) (fun cls d _ H' => E cls d H')) (hp : PassesOwn (model P w) (cxOf (L2N.CX P w) P w K mg base ["rows", "some"] "row_text" (defScope (top 31)) fa cdv A outer s H E).A (cxOf (L2N.CX P w) P w K mg base ["rows", "some"] "row_text" (defScope (top 31)) fa cdv A outer s H E).env (cxOf (L2N.CX P w) P w K mg base ["rows", "some"] "row_text" (defScope (top 31)) fa cdv A outer s H E).xe) :
    SSs cl (cxOf (L2N.CX P w) P w K mg base ["rows", "some"] "row_text" (defScope (top 31)) fa cdv A outer s H E) (fun cls d _ H' => E cls d H') (defBody (top 31)) (m_row_text F) := by
  have hu := units_of hr
  have hr2 := hr.mono (show 2 ≤ k + 3 by omega)
  have hr1 := hr.mono (show 1 ≤ k + 3 by omega)
  exact (ss_one (ss_ret (se_join se_str (se_lc (own := [("some", 1)]) rfl sc_row_text.nd (si_seq (se_var 0)) (blkOk_by (by kernel_rfl)) (fun _ _ _ _ _ => (sg_name 1 sc_row_text.nd (by rfl) (by first | exact Or.inl rfl | exact Or.inr rfl))) (fun _ _ _ _ _ => sts_nil) (fun _ _ _ _ _ => (se_cl T.f_numbers_text hr takes0N (by rfl) (sa_cons (se_var 1) sa_nil))) (by decide)))))
def m_case_text (F : Nat → FN) : ES :=
  (sSeq (sSetT (.tp [1, 2]) (eVar 0))
    (sSeq (sSet 3 (eOp vAdd (eLst (aCons (eJoinF [(eFmt (eOp vIx (eVar 1) (eC (.int 0)))), (eC (.str " ")), (eFmt (eOp vIx (eVar 1) (eC (.int 1))))] Str.empty) (aCons (eCl 1 (F 8) (aCons (eOp vIx (eVar 1) (eC (.int 2))) aNil)) aNil))) (eLc [4] (.nm 4) (iSeq (eOp vIx (eVar 1) (eC (.int 3)))) kYes (eCl 1 (F 8) (aCons (eVar 4) aNil)))))
    (sRet (eJoin (eC (.str " | ")) (eOp vAdd (eVar 3) (eLst (aCons (eCB bStrI (aCons (eVar 2) aNil)) aNil)))))))
theorem sc_case_text : FnScope ["case", "model", "world", "pieces", "own"] ["case"] (defScope (top 32)) := ⟨rfl, rfl, rfl, by decide +kernel, rfl, by decide +kernel, by decide +kernel⟩
theorem b_case_text (T : Tb cl P w K mg base (k + 3) F) (B : Bl mg) (C : Cs ⟨K, w, cl⟩ mg) (cdv : Value) (A : Around) (outer : List Env) (s : Shared) (H : Hp) (E : XK) (hr : Room (k + 3) (cxOf (L2N.CX P w) P w K mg base ["case", "model", "world", "pieces", "own"] "case_text" (defScope (top 32)) fa cdv A outer s H E).A) (tk : L2N.Takes (cxOf (L2N.CX P w) P w K mg base ["case", "model", "world", "pieces", "own"] "case_text" (defScope (top 32)) fa cdv A outer s H E) (fun cls d _ H' => E cls d H')) (hp : PassesOwn (model P w) (cxOf (L2N.CX P w) P w K mg base ["case", "model", "world", "pieces", "own"] "case_text" (defScope (top 32)) fa cdv A outer s H E).A (cxOf (L2N.CX P w) P w K mg base ["case", "model", "world", "pieces", "own"] "case_text" (defScope (top 32)) fa cdv A outer s H E).env (cxOf (L2N.CX P w) P w K mg base ["case", "model", "world", "pieces", "own"] "case_text" (defScope (top 32)) fa cdv A outer s H E).xe) :
    SSs cl (cxOf (L2N.CX P w) P w K mg base ["case", "model", "world", "pieces", "own"] "case_text" (defScope (top 32)) fa cdv A outer s H E) (fun cls d _ H' => E cls d H') (defBody (top 32)) (m_case_text F) := by
  have hu := units_of hr
  have hr2 := hr.mono (show 2 ≤ k + 3 by omega)
  have hr1 := hr.mono (show 1 ≤ k + 3 by omega)
  exact (ss_cons (ss_setT (se_var 0) (sg_tup (by rfl) (sgs_cons 1 sc_case_text.nd (by rfl) (by first | exact Or.inl rfl | exact Or.inr rfl) (sgs_cons 2 sc_case_text.nd (by rfl) (by first | exact Or.inl rfl | exact Or.inr rfl) sgs_nil))))
    (ss_cons (ss_set 3 sc_case_text.nd (by rfl) (by first | exact Or.inl rfl | exact Or.inr rfl) (se_op o_add (se_lst (sa_cons (se_joined (.cons (se_fmt (se_ix (se_var 1) se_int (fun _ _ => rfl))) (.cons se_str (.cons (se_fmt (se_ix (se_var 1) se_int (fun _ _ => rfl))) .nil)))) (sa_cons (se_cl T.f_row_text hr tk (by rfl) (sa_cons (se_ix (se_var 1) se_int (fun _ _ => rfl)) sa_nil)) sa_nil))) (se_lc (own := [("own", 4)]) rfl sc_case_text.nd (si_seq (se_ix (se_var 1) se_int (fun _ _ => rfl))) (blkOk_by (by kernel_rfl)) (fun _ _ _ _ _ => (sg_name 4 sc_case_text.nd (by rfl) (by first | exact Or.inl rfl | exact Or.inr rfl))) (fun _ _ _ _ _ => sts_nil) (fun _ _ _ _ _ => (se_cl T.f_row_text hr takes0N (by rfl) (sa_cons (se_var 4) sa_nil))) (by decide))))
    (ss_one (ss_ret (se_join se_str (se_op o_add (se_var 3) (se_lst (sa_cons (se_callTy c_strI (by rfl) B.str_ bb_str (sa_cons (se_var 2) sa_nil)) sa_nil))))))))
def m_shown_case (F : Nat → FN) : ES :=
  (sSeq (sExpr (eCl 1 (F 5) (aCons (eVar 0) aNil)))
    (sRet (eCl 1 (F 9) (aCons (eVar 0) aNil))))
theorem sc_shown_case : FnScope ["case"] ["case"] (defScope (top 33)) := ⟨rfl, rfl, rfl, by decide +kernel, rfl, by decide +kernel, by decide +kernel⟩
theorem b_shown_case (T : Tb cl P w K mg base (k + 3) F) (B : Bl mg) (C : Cs ⟨K, w, cl⟩ mg) (cdv : Value) (A : Around) (outer : List Env) (s : Shared) (H : Hp) (E : XK) (hr : Room (k + 3) (cxOf (L2N.CX P w) P w K mg base ["case"] "shown_case" (defScope (top 33)) fa cdv A outer s H E).A) (tk : L2N.Takes (cxOf (L2N.CX P w) P w K mg base ["case"] "shown_case" (defScope (top 33)) fa cdv A outer s H E) (fun cls d _ H' => E cls d H')) (hp : PassesOwn (model P w) (cxOf (L2N.CX P w) P w K mg base ["case"] "shown_case" (defScope (top 33)) fa cdv A outer s H E).A (cxOf (L2N.CX P w) P w K mg base ["case"] "shown_case" (defScope (top 33)) fa cdv A outer s H E).env (cxOf (L2N.CX P w) P w K mg base ["case"] "shown_case" (defScope (top 33)) fa cdv A outer s H E).xe) :
    SSs cl (cxOf (L2N.CX P w) P w K mg base ["case"] "shown_case" (defScope (top 33)) fa cdv A outer s H E) (fun cls d _ H' => E cls d H') (defBody (top 33)) (m_shown_case F) := by
  have hu := units_of hr
  have hr2 := hr.mono (show 2 ≤ k + 3 by omega)
  have hr1 := hr.mono (show 1 ≤ k + 3 by omega)
  exact (ss_cons (ss_expr (se_cl T.f_need_case hr tk (by rfl) (sa_cons (se_var 0) sa_nil)))
    (ss_one (ss_ret (se_cl T.f_case_text hr tk (by rfl) (sa_cons (se_var 0) sa_nil)))))
def m_numbers_in (F : Nat → FN) : ES :=
  (sRet (eIf (eTst (eOp vEq (eVar 0) (eC (.str "-")))) (eTup aNil) (eCB bTuple (aCons (eLc [1] (.nm 1) (iSeq (eSplit (eVar 0) (eC (.str " ")))) kYes (eCl 1 (F 6) (aCons (eVar 1) aNil))) aNil))))
theorem sc_numbers_in : FnScope ["text", "word"] ["text"] (defScope (top 34)) := ⟨rfl, rfl, rfl, by decide +kernel, rfl, by decide +kernel, by decide +kernel⟩
theorem b_numbers_in (T : Tb cl P w K mg base (k + 3) F) (B : Bl mg) (C : Cs ⟨K, w, cl⟩ mg) (cdv : Value) (A : Around) (outer : List Env) (s : Shared) (H : Hp) (E : XK) (hr : Room (k + 3) (cxOf (L2N.CX P w) P w K mg base ["text", "word"] "numbers_in" (defScope (top 34)) fa cdv A outer s H E).A) (tk : L2N.Takes (cxOf (L2N.CX P w) P w K mg base ["text", "word"] "numbers_in" (defScope (top 34)) fa cdv A outer s H E) (fun cls d _ H' => E cls d H')) (hp : PassesOwn (model P w) (cxOf (L2N.CX P w) P w K mg base ["text", "word"] "numbers_in" (defScope (top 34)) fa cdv A outer s H E).A (cxOf (L2N.CX P w) P w K mg base ["text", "word"] "numbers_in" (defScope (top 34)) fa cdv A outer s H E).env (cxOf (L2N.CX P w) P w K mg base ["text", "word"] "numbers_in" (defScope (top 34)) fa cdv A outer s H E).xe) :
    SSs cl (cxOf (L2N.CX P w) P w K mg base ["text", "word"] "numbers_in" (defScope (top 34)) fa cdv A outer s H E) (fun cls d _ H' => E cls d H') (defBody (top 34)) (m_numbers_in F) := by
  have hu := units_of hr
  have hr2 := hr.mono (show 2 ≤ k + 3 by omega)
  have hr1 := hr.mono (show 1 ≤ k + 3 by omega)
  exact (ss_one (ss_ret (se_if (st_cmp (o_eq hu) (se_var 0) se_str (by rfl)) (se_tup sa_nil) (se_callTy c_tuple (by rfl) B.tuple_ bb_tuple (sa_cons (se_lc (own := [("word", 1)]) rfl sc_numbers_in.nd (si_seq (se_split (se_var 0) se_str)) (blkOk_by (by kernel_rfl)) (fun _ _ _ _ _ => (sg_name 1 sc_numbers_in.nd (by rfl) (by first | exact Or.inl rfl | exact Or.inr rfl))) (fun _ _ _ _ _ => sts_nil) (fun _ _ _ _ _ => (se_cl T.f_number_in hr takes0N (by rfl) (sa_cons (se_var 1) sa_nil))) (by decide)) sa_nil)))))
def m_row_in (F : Nat → FN) : ES :=
  (sRet (eCB bTuple (aCons (eLc [1] (.nm 1) (iSeq (eSplit (eVar 0) (eC (.str ", ")))) kYes (eCl 1 (F 11) (aCons (eVar 1) aNil))) aNil)))
theorem sc_row_in : FnScope ["text", "one"] ["text"] (defScope (top 35)) := ⟨rfl, rfl, rfl, by decide +kernel, rfl, by decide +kernel, by decide +kernel⟩
theorem b_row_in (T : Tb cl P w K mg base (k + 3) F) (B : Bl mg) (C : Cs ⟨K, w, cl⟩ mg) (cdv : Value) (A : Around) (outer : List Env) (s : Shared) (H : Hp) (E : XK) (hr : Room (k + 3) (cxOf (L2N.CX P w) P w K mg base ["text", "one"] "row_in" (defScope (top 35)) fa cdv A outer s H E).A) (tk : L2N.Takes (cxOf (L2N.CX P w) P w K mg base ["text", "one"] "row_in" (defScope (top 35)) fa cdv A outer s H E) (fun cls d _ H' => E cls d H')) (hp : PassesOwn (model P w) (cxOf (L2N.CX P w) P w K mg base ["text", "one"] "row_in" (defScope (top 35)) fa cdv A outer s H E).A (cxOf (L2N.CX P w) P w K mg base ["text", "one"] "row_in" (defScope (top 35)) fa cdv A outer s H E).env (cxOf (L2N.CX P w) P w K mg base ["text", "one"] "row_in" (defScope (top 35)) fa cdv A outer s H E).xe) :
    SSs cl (cxOf (L2N.CX P w) P w K mg base ["text", "one"] "row_in" (defScope (top 35)) fa cdv A outer s H E) (fun cls d _ H' => E cls d H') (defBody (top 35)) (m_row_in F) := by
  have hu := units_of hr
  have hr2 := hr.mono (show 2 ≤ k + 3 by omega)
  have hr1 := hr.mono (show 1 ≤ k + 3 by omega)
  exact (ss_one (ss_ret (se_callTy c_tuple (by rfl) B.tuple_ bb_tuple (sa_cons (se_lc (own := [("one", 1)]) rfl sc_row_in.nd (si_seq (se_split (se_var 0) se_str)) (blkOk_by (by kernel_rfl)) (fun _ _ _ _ _ => (sg_name 1 sc_row_in.nd (by rfl) (by first | exact Or.inl rfl | exact Or.inr rfl))) (fun _ _ _ _ _ => sts_nil) (fun _ _ _ _ _ => (se_cl T.f_numbers_in hr takes0N (by rfl) (sa_cons (se_var 1) sa_nil))) (by decide)) sa_nil))))
def m_read_case (F : Nat → FN) : ES :=
  (sSeq (sIf (kNot (eTst (eIsi "str" (eVar 0)))) (sRaise0 11) sNx)
    (sSeq (sStarL 1 2 (eSplit (eVar 0) (eC (.str " | "))))
    (sSeq (sSet 3 (eCl 1 (F 11) (aCons (eVar 1) aNil)))
    (sSeq (sIf (kOr (eTst (eOp vNe (eCB bLen (aCons (eVar 3) aNil)) (eC (.int 2)))) (eTst (eOp (pur2 (dI iLt)) (eCB bLen (aCons (eVar 2) aNil)) (eC (.int 2))))) (sRaise0 11) sNx)
    (sSeq (sSet 4 (eTup (aCons (eOp vIx (eVar 3) (eC (.int 0))) (aCons (eOp vIx (eVar 3) (eC (.int 1))) (aCons (eCl 1 (F 12) (aCons (eOp vIx (eVar 2) (eC (.int 0))) aNil)) (aCons (eCB bTuple (aCons (eLc [6] (.nm 6) (iSeq (eSl (eVar 2) (oSome (eC (.int 1))) (oSome (eNeg (eC (.int 1)))))) kYes (eCl 1 (F 12) (aCons (eVar 6) aNil))) aNil)) aNil))))))
    (sSeq (sSet 5 (eTup (aCons (eVar 4) (aCons (eCl 1 (F 6) (aCons (eOp vIx (eVar 2) (eNeg (eC (.int 1)))) aNil)) aNil))))
    (sSeq (sIf (kNot (eTst (eCl 1 (F 4) (aCons (eVar 5) aNil)))) (sRaise0 11) sNx)
    (sRet (eVar 5)))))))))
theorem sc_read_case : FnScope ["text", "head", "pieces", "sizes", "model", "made", "piece"] ["text"] (defScope (top 36)) := ⟨rfl, rfl, rfl, by decide +kernel, rfl, by decide +kernel, by decide +kernel⟩
theorem b_read_case (T : Tb cl P w K mg base (k + 3) F) (B : Bl mg) (C : Cs ⟨K, w, cl⟩ mg) (cdv : Value) (A : Around) (outer : List Env) (s : Shared) (H : Hp) (E : XK) (hr : Room (k + 3) (cxOf (L2N.CX P w) P w K mg base ["text", "head", "pieces", "sizes", "model", "made", "piece"] "read_case" (defScope (top 36)) fa cdv A outer s H E).A) (tk : L2N.Takes (cxOf (L2N.CX P w) P w K mg base ["text", "head", "pieces", "sizes", "model", "made", "piece"] "read_case" (defScope (top 36)) fa cdv A outer s H E) (fun cls d _ H' => E cls d H')) (hp : PassesOwn (model P w) (cxOf (L2N.CX P w) P w K mg base ["text", "head", "pieces", "sizes", "model", "made", "piece"] "read_case" (defScope (top 36)) fa cdv A outer s H E).A (cxOf (L2N.CX P w) P w K mg base ["text", "head", "pieces", "sizes", "model", "made", "piece"] "read_case" (defScope (top 36)) fa cdv A outer s H E).env (cxOf (L2N.CX P w) P w K mg base ["text", "head", "pieces", "sizes", "model", "made", "piece"] "read_case" (defScope (top 36)) fa cdv A outer s H E).xe) :
    SSs cl (cxOf (L2N.CX P w) P w K mg base ["text", "head", "pieces", "sizes", "model", "made", "piece"] "read_case" (defScope (top 36)) fa cdv A outer s H E) (fun cls d _ H' => E cls d H') (defBody (top 36)) (m_read_case F) := by
  have hu := units_of hr
  have hr2 := hr.mono (show 2 ≤ k + 3 by omega)
  have hr1 := hr.mono (show 1 ≤ k + 3 by omega)
  exact (ss_cons (ss_if (st_not (st_val (se_isi (se_var 0) (by rfl) B.isinstance_ (by rfl) B.str_ bb_str))) (ss_one (ss_raise0 T.xt 11 (by decide) (by decide) (by decide) rfl rfl tk (by rfl))) ss_nil)
    (ss_cons (ss_starL 1 2 rfl sc_read_case.nd (by rfl) (by rfl) (by first | exact Or.inl rfl | exact Or.inr rfl) (by first | exact Or.inl rfl | exact Or.inr rfl) (fun _ => rfl) (se_split (se_var 0) se_str))
    (ss_cons (ss_set 3 sc_read_case.nd (by rfl) (by first | exact Or.inl rfl | exact Or.inr rfl) (se_cl T.f_numbers_in hr tk (by rfl) (sa_cons (se_var 1) sa_nil)))
    (ss_cons (ss_if (st_bool (sw_or (st_cmp (o_ne hu) (se_callB c_len (by rfl) B.len_ bb_len (sa_cons (se_var 3) sa_nil)) se_int (by rfl)) (sw_one_or (st_cmp o_lt (se_callB c_len (by rfl) B.len_ bb_len (sa_cons (se_var 2) sa_nil)) se_int (by rfl))))) (ss_one (ss_raise0 T.xt 11 (by decide) (by decide) (by decide) rfl rfl tk (by rfl))) ss_nil)
    (ss_cons (ss_set 4 sc_read_case.nd (by rfl) (by first | exact Or.inl rfl | exact Or.inr rfl) (se_tup (sa_cons (se_ix (se_var 3) se_int (fun _ _ => rfl)) (sa_cons (se_ix (se_var 3) se_int (fun _ _ => rfl)) (sa_cons (se_cl T.f_row_in hr tk (by rfl) (sa_cons (se_ix (se_var 2) se_int (fun _ _ => rfl)) sa_nil)) (sa_cons (se_callTy c_tuple (by rfl) B.tuple_ bb_tuple (sa_cons (se_lc (own := [("piece", 6)]) rfl sc_read_case.nd (si_seq (se_slice (se_var 2) (so_some se_int) (so_some (se_neg se_int)))) (blkOk_by (by kernel_rfl)) (fun _ _ _ _ _ => (sg_name 6 sc_read_case.nd (by rfl) (by first | exact Or.inl rfl | exact Or.inr rfl))) (fun _ _ _ _ _ => sts_nil) (fun _ _ _ _ _ => (se_cl T.f_row_in hr takes0N (by rfl) (sa_cons (se_var 6) sa_nil))) (by decide)) sa_nil)) sa_nil))))))
    (ss_cons (ss_set 5 sc_read_case.nd (by rfl) (by first | exact Or.inl rfl | exact Or.inr rfl) (se_tup (sa_cons (se_var 4) (sa_cons (se_cl T.f_number_in hr tk (by rfl) (sa_cons (se_ix (se_var 2) (se_neg se_int) (fun _ _ => rfl)) sa_nil)) sa_nil))))
    (ss_cons (ss_if (st_not (st_val (se_cl T.f_is_case hr tk (by rfl) (sa_cons (se_var 5) sa_nil)))) (ss_one (ss_raise0 T.xt 11 (by decide) (by decide) (by decide) rfl rfl tk (by rfl))) ss_nil)
    (ss_one (ss_ret (se_var 5))))))))))
def m__law_cell_at (F : Nat → FN) : ES :=
  (sSeq (sIf (eTst (eOp (pur2 (dI iLt)) (eVar 1) (eCB bLen (aCons (eVar 0) aNil)))) (sRet (eOp vIx (eVar 0) (eVar 1))) sNx)
    (sSeq (sIf (eTst (eOp vEq (eVar 0) (eLst aNil))) (sRet (eC (.int 0))) sNx)
    (sSeq (sSet 2 (eOp vIx (eVar 0) (eOp (pur2 (dI iMod)) (eVar 1) (eCB bLen (aCons (eVar 0) aNil)))))
    (sSeq (sFor (.nm 3) (iRange (aCons (eCB bMin (aCons (eOp (pur2 (dI iDiv)) (eVar 1) (eCB bLen (aCons (eVar 0) aNil))) (aCons (eC (.int 60)) aNil))) aNil)) (sSet 2 (eOp (pur2 (dI iDiv)) (eVar 2) (eC (.int 1000003)))))
    (sRet (eOp vAdd (eOp vAdd (eOp vMul (eOp vIx (eVar 0) (eOp (pur2 (dI iMod)) (eVar 1) (eCB bLen (aCons (eVar 0) aNil)))) (eC (.int 31))) (eVar 1)) (eOp vMul (eVar 2) (eC (.int 101)))))))))
theorem sc__law_cell_at : FnScope ["script", "k", "rest", "again"] ["script", "k"] (defScope (top 38)) := ⟨rfl, rfl, rfl, by decide +kernel, rfl, by decide +kernel, by decide +kernel⟩
theorem b__law_cell_at (T : Tb cl P w K mg base (k + 3) F) (B : Bl mg) (C : Cs ⟨K, w, cl⟩ mg) (cdv : Value) (A : Around) (outer : List Env) (s : Shared) (H : Hp) (E : XK) (hr : Room (k + 3) (cxOf (L2N.CX P w) P w K mg base ["script", "k", "rest", "again"] "_law_cell_at" (defScope (top 38)) fa cdv A outer s H E).A) (tk : L2N.Takes (cxOf (L2N.CX P w) P w K mg base ["script", "k", "rest", "again"] "_law_cell_at" (defScope (top 38)) fa cdv A outer s H E) (fun cls d _ H' => E cls d H')) (hp : PassesOwn (model P w) (cxOf (L2N.CX P w) P w K mg base ["script", "k", "rest", "again"] "_law_cell_at" (defScope (top 38)) fa cdv A outer s H E).A (cxOf (L2N.CX P w) P w K mg base ["script", "k", "rest", "again"] "_law_cell_at" (defScope (top 38)) fa cdv A outer s H E).env (cxOf (L2N.CX P w) P w K mg base ["script", "k", "rest", "again"] "_law_cell_at" (defScope (top 38)) fa cdv A outer s H E).xe) :
    SSs cl (cxOf (L2N.CX P w) P w K mg base ["script", "k", "rest", "again"] "_law_cell_at" (defScope (top 38)) fa cdv A outer s H E) (fun cls d _ H' => E cls d H') (defBody (top 38)) (m__law_cell_at F) := by
  have hu := units_of hr
  have hr2 := hr.mono (show 2 ≤ k + 3 by omega)
  have hr1 := hr.mono (show 1 ≤ k + 3 by omega)
  exact (ss_cons (ss_if (st_cmp o_lt (se_var 1) (se_callB c_len (by rfl) B.len_ bb_len (sa_cons (se_var 0) sa_nil)) (by rfl)) (ss_one (ss_ret (se_ix (se_var 0) (se_var 1) (fun _ _ => rfl)))) ss_nil)
    (ss_cons (ss_if (st_cmp (o_eq hu) (se_var 0) (se_lst sa_nil) (by rfl)) (ss_one (ss_ret se_int)) ss_nil)
    (ss_cons (ss_set 2 sc__law_cell_at.nd (by rfl) (by first | exact Or.inl rfl | exact Or.inr rfl) (se_ix (se_var 0) (se_op o_mod (se_var 1) (se_callB c_len (by rfl) B.len_ bb_len (sa_cons (se_var 0) sa_nil))) (fun _ _ => rfl)))
    (ss_cons (ss_for hp rfl (si_range (by rfl) B.range_ (sa_cons (se_callB (c_min rfl) (by rfl) B.min_ bb_min (sa_cons (se_op o_div (se_var 1) (se_callB c_len (by rfl) B.len_ bb_len (sa_cons (se_var 0) sa_nil))) (sa_cons se_int sa_nil))) sa_nil)) (sg_name 3 sc__law_cell_at.nd (by rfl) (by first | exact Or.inl rfl | exact Or.inr rfl)) (ss_one (ss_set 2 sc__law_cell_at.nd (by rfl) (by first | exact Or.inl rfl | exact Or.inr rfl) (se_op o_div (se_var 2) se_int))))
    (ss_one (ss_ret (se_op o_add (se_op o_add (se_op o_mul (se_ix (se_var 0) (se_op o_mod (se_var 1) (se_callB c_len (by rfl) B.len_ bb_len (sa_cons (se_var 0) sa_nil))) (fun _ _ => rfl)) se_int) (se_var 1)) (se_op o_mul (se_var 2) se_int))))))))
def m__law_mixed (F : Nat → FN) : ES :=
  (sSeq (sSet 3 (eOp (pur2 (dI iMod)) (eOp vAdd (eOp vAdd (eOp vMul (eCl 2 (F 14) (aCons (eVar 0) (aCons (eVar 1) aNil))) (eC (.int 1103515245))) (eOp vMul (eC (.int 7919)) (eVar 1))) (eC (.int 12345))) (eC (.int 2147483647))))
    (sRet (eOp (pur2 (dI iMod)) (eOp (pur2 (dI iMod)) (eOp (pur2 (dI iMod)) (eOp (pur2 (dI iPow)) (eVar 3) (eC (.int 5))) (eC (.int 2147483647))) (eC (.int 999983))) (eVar 2))))
theorem sc__law_mixed : FnScope ["script", "k", "bound", "drawn"] ["script", "k", "bound"] (defScope (top 39)) := ⟨rfl, rfl, rfl, by decide +kernel, rfl, by decide +kernel, by decide +kernel⟩
theorem b__law_mixed (T : Tb cl P w K mg base (k + 3) F) (B : Bl mg) (C : Cs ⟨K, w, cl⟩ mg) (cdv : Value) (A : Around) (outer : List Env) (s : Shared) (H : Hp) (E : XK) (hr : Room (k + 3) (cxOf (L2N.CX P w) P w K mg base ["script", "k", "bound", "drawn"] "_law_mixed" (defScope (top 39)) fa cdv A outer s H E).A) (tk : L2N.Takes (cxOf (L2N.CX P w) P w K mg base ["script", "k", "bound", "drawn"] "_law_mixed" (defScope (top 39)) fa cdv A outer s H E) (fun cls d _ H' => E cls d H')) (hp : PassesOwn (model P w) (cxOf (L2N.CX P w) P w K mg base ["script", "k", "bound", "drawn"] "_law_mixed" (defScope (top 39)) fa cdv A outer s H E).A (cxOf (L2N.CX P w) P w K mg base ["script", "k", "bound", "drawn"] "_law_mixed" (defScope (top 39)) fa cdv A outer s H E).env (cxOf (L2N.CX P w) P w K mg base ["script", "k", "bound", "drawn"] "_law_mixed" (defScope (top 39)) fa cdv A outer s H E).xe) :
    SSs cl (cxOf (L2N.CX P w) P w K mg base ["script", "k", "bound", "drawn"] "_law_mixed" (defScope (top 39)) fa cdv A outer s H E) (fun cls d _ H' => E cls d H') (defBody (top 39)) (m__law_mixed F) := by
  have hu := units_of hr
  have hr2 := hr.mono (show 2 ≤ k + 3 by omega)
  have hr1 := hr.mono (show 1 ≤ k + 3 by omega)
  exact (ss_cons (ss_set 3 sc__law_mixed.nd (by rfl) (by first | exact Or.inl rfl | exact Or.inr rfl) (se_op o_mod (se_op o_add (se_op o_add (se_op o_mul (se_cl T.f__law_cell_at hr tk (by rfl) (sa_cons (se_var 0) (sa_cons (se_var 1) sa_nil))) se_int) (se_op o_mul se_int (se_var 1))) se_int) se_int))
    (ss_one (ss_ret (se_op o_mod (se_op o_mod (se_op o_mod (se_op o_pow (se_var 3) se_int) se_int) se_int) (se_var 2)))))
def m__law_draw (F : Nat → FN) : ES :=
  (sSeq (sExpr (eAppend (eVar 1) (eC (.int 0))))
    (sRet (eCl 3 (F 15) (aCons (eVar 0) (aCons (eCB bLen (aCons (eVar 1) aNil)) (aCons (eVar 2) aNil))))))
theorem sc__law_draw : FnScope ["script", "town", "bound"] ["script", "town", "bound"] (defScope (top 40)) := ⟨rfl, rfl, rfl, by decide +kernel, rfl, by decide +kernel, by decide +kernel⟩
theorem b__law_draw (T : Tb cl P w K mg base (k + 3) F) (B : Bl mg) (C : Cs ⟨K, w, cl⟩ mg) (cdv : Value) (A : Around) (outer : List Env) (s : Shared) (H : Hp) (E : XK) (hr : Room (k + 3) (cxOf (L2N.CX P w) P w K mg base ["script", "town", "bound"] "_law_draw" (defScope (top 40)) fa cdv A outer s H E).A) (tk : L2N.Takes (cxOf (L2N.CX P w) P w K mg base ["script", "town", "bound"] "_law_draw" (defScope (top 40)) fa cdv A outer s H E) (fun cls d _ H' => E cls d H')) (hp : PassesOwn (model P w) (cxOf (L2N.CX P w) P w K mg base ["script", "town", "bound"] "_law_draw" (defScope (top 40)) fa cdv A outer s H E).A (cxOf (L2N.CX P w) P w K mg base ["script", "town", "bound"] "_law_draw" (defScope (top 40)) fa cdv A outer s H E).env (cxOf (L2N.CX P w) P w K mg base ["script", "town", "bound"] "_law_draw" (defScope (top 40)) fa cdv A outer s H E).xe) :
    SSs cl (cxOf (L2N.CX P w) P w K mg base ["script", "town", "bound"] "_law_draw" (defScope (top 40)) fa cdv A outer s H E) (fun cls d _ H' => E cls d H') (defBody (top 40)) (m__law_draw F) := by
  have hu := units_of hr
  have hr2 := hr.mono (show 2 ≤ k + 3 by omega)
  have hr1 := hr.mono (show 1 ≤ k + 3 by omega)
  exact (ss_cons (ss_expr (se_append (se_var 1) se_int))
    (ss_one (ss_ret (se_cl T.f__law_mixed hr tk (by rfl) (sa_cons (se_var 0) (sa_cons (se_callB c_len (by rfl) B.len_ bb_len (sa_cons (se_var 1) sa_nil)) (sa_cons (se_var 2) sa_nil)))))))
def m__law_pick (F : Nat → FN) : ES :=
  (sRet (eOp vIx (eVar 2) (eCl 3 (F 16) (aCons (eVar 0) (aCons (eVar 1) (aCons (eCB bLen (aCons (eVar 2) aNil)) aNil))))))
theorem sc__law_pick : FnScope ["script", "town", "some"] ["script", "town", "some"] (defScope (top 41)) := ⟨rfl, rfl, rfl, by decide +kernel, rfl, by decide +kernel, by decide +kernel⟩
theorem b__law_pick (T : Tb cl P w K mg base (k + 3) F) (B : Bl mg) (C : Cs ⟨K, w, cl⟩ mg) (cdv : Value) (A : Around) (outer : List Env) (s : Shared) (H : Hp) (E : XK) (hr : Room (k + 3) (cxOf (L2N.CX P w) P w K mg base ["script", "town", "some"] "_law_pick" (defScope (top 41)) fa cdv A outer s H E).A) (tk : L2N.Takes (cxOf (L2N.CX P w) P w K mg base ["script", "town", "some"] "_law_pick" (defScope (top 41)) fa cdv A outer s H E) (fun cls d _ H' => E cls d H')) (hp : PassesOwn (model P w) (cxOf (L2N.CX P w) P w K mg base ["script", "town", "some"] "_law_pick" (defScope (top 41)) fa cdv A outer s H E).A (cxOf (L2N.CX P w) P w K mg base ["script", "town", "some"] "_law_pick" (defScope (top 41)) fa cdv A outer s H E).env (cxOf (L2N.CX P w) P w K mg base ["script", "town", "some"] "_law_pick" (defScope (top 41)) fa cdv A outer s H E).xe) :
    SSs cl (cxOf (L2N.CX P w) P w K mg base ["script", "town", "some"] "_law_pick" (defScope (top 41)) fa cdv A outer s H E) (fun cls d _ H' => E cls d H') (defBody (top 41)) (m__law_pick F) := by
  have hu := units_of hr
  have hr2 := hr.mono (show 2 ≤ k + 3 by omega)
  have hr1 := hr.mono (show 1 ≤ k + 3 by omega)
  exact (ss_one (ss_ret (se_ix (se_var 2) (se_cl T.f__law_draw hr tk (by rfl) (sa_cons (se_var 0) (sa_cons (se_var 1) (sa_cons (se_callB c_len (by rfl) B.len_ bb_len (sa_cons (se_var 2) sa_nil)) sa_nil)))) (fun _ _ => rfl))))
def m__law_views (F : Nat → FN) : ES :=
  (sSeq (sParN [4, 5] (aCons (eCB bLen (aCons (eVar 3) aNil)) (aCons (eLstR aNil) aNil)))
    (sSeq (sFor (.nm 6) (iRange (aCons (eVar 2) aNil)) (sSeq (sSet 7 (eCl 3 (F 16) (aCons (eVar 0) (aCons (eVar 1) (aCons (eC (.int 3)) aNil)))))
    (sIf (eTst (eOp vEq (eVar 7) (eC (.int 0)))) (sSeq (sSet 8 (eLc [10] (.nm 10) (iRange (aCons (eVar 4) aNil)) kYes (eCl 3 (F 16) (aCons (eVar 0) (aCons (eVar 1) (aCons (eC (.int 3)) aNil))))))
    (sExpr (eAppend (eVar 5) (eCB bTuple (aCons (eLc [12] (.nm 12) (iSeq (eVar 8)) kYes (eCB bTuple (aCons (eLc [13] (.nm 13) (iRange (aCons (eVar 4) aNil)) (eTst (eOp vEq (eOp vIx (eVar 8) (eVar 13)) (eVar 12))) (eVar 13)) aNil))) aNil))))) (sSeq (sSet 9 (eLstR aNil))
    (sSeq (sFor (.nm 10) (iRange (aCons (eVar 4) aNil)) (sSeq (sSet 11 (eLc [13] (.nm 13) (iRange (aCons (eVar 4) aNil)) (eTst (eOp vEq (eCl 3 (F 16) (aCons (eVar 0) (aCons (eVar 1) (aCons (eC (.int 3)) aNil)))) (eC (.int 0)))) (eVar 13)))
    (sExpr (eAppend (eVar 9) (eCB bTuple (aCons (eSortSet (eOp vAdd (eVar 11) (eOp vMul (eLst (aCons (eVar 10) aNil)) (eCB bInt (aCons (eOp vEq (eVar 7) (eC (.int 1))) aNil))))) aNil))))))
    (sExpr (eAppend (eVar 5) (eCB bTuple (aCons (eVar 9) aNil)))))))))
    (sRet (eCB bTuple (aCons (eVar 5) aNil)))))
theorem sc__law_views : FnScope ["script", "town", "minds", "worlds", "many", "made", "mind", "kind", "marks", "own", "world", "some", "mark", "one"] ["script", "town", "minds", "worlds"] (defScope (top 42)) := ⟨rfl, rfl, rfl, by decide +kernel, rfl, by decide +kernel, by decide +kernel⟩
theorem b__law_views (T : Tb cl P w K mg base (k + 3) F) (B : Bl mg) (C : Cs ⟨K, w, cl⟩ mg) (cdv : Value) (A : Around) (outer : List Env) (s : Shared) (H : Hp) (E : XK) (hr : Room (k + 3) (cxOf (L2N.CX P w) P w K mg base ["script", "town", "minds", "worlds", "many", "made", "mind", "kind", "marks", "own", "world", "some", "mark", "one"] "_law_views" (defScope (top 42)) fa cdv A outer s H E).A) (tk : L2N.Takes (cxOf (L2N.CX P w) P w K mg base ["script", "town", "minds", "worlds", "many", "made", "mind", "kind", "marks", "own", "world", "some", "mark", "one"] "_law_views" (defScope (top 42)) fa cdv A outer s H E) (fun cls d _ H' => E cls d H')) (hp : PassesOwn (model P w) (cxOf (L2N.CX P w) P w K mg base ["script", "town", "minds", "worlds", "many", "made", "mind", "kind", "marks", "own", "world", "some", "mark", "one"] "_law_views" (defScope (top 42)) fa cdv A outer s H E).A (cxOf (L2N.CX P w) P w K mg base ["script", "town", "minds", "worlds", "many", "made", "mind", "kind", "marks", "own", "world", "some", "mark", "one"] "_law_views" (defScope (top 42)) fa cdv A outer s H E).env (cxOf (L2N.CX P w) P w K mg base ["script", "town", "minds", "worlds", "many", "made", "mind", "kind", "marks", "own", "world", "some", "mark", "one"] "_law_views" (defScope (top 42)) fa cdv A outer s H E).xe) :
    SSs cl (cxOf (L2N.CX P w) P w K mg base ["script", "town", "minds", "worlds", "many", "made", "mind", "kind", "marks", "own", "world", "some", "mark", "one"] "_law_views" (defScope (top 42)) fa cdv A outer s H E) (fun cls d _ H' => E cls d H') (defBody (top 42)) (m__law_views F) := by
  have hu := units_of hr
  have hr2 := hr.mono (show 2 ≤ k + 3 by omega)
  have hr1 := hr.mono (show 1 ≤ k + 3 by omega)
  exact (ss_cons (ss_parN rfl (sa_cons (se_callB c_len (by rfl) B.len_ bb_len (sa_cons (se_var 3) sa_nil)) (sa_cons (se_lstR sa_nil) sa_nil)) (sgs_cons 4 sc__law_views.nd (by rfl) (by first | exact Or.inl rfl | exact Or.inr rfl) (sgs_cons 5 sc__law_views.nd (by rfl) (by first | exact Or.inl rfl | exact Or.inr rfl) sgs_nil)) (by decide))
    (ss_cons (ss_for hp rfl (si_range (by rfl) B.range_ (sa_cons (se_var 2) sa_nil)) (sg_name 6 sc__law_views.nd (by rfl) (by first | exact Or.inl rfl | exact Or.inr rfl)) (ss_cons (ss_set 7 sc__law_views.nd (by rfl) (by first | exact Or.inl rfl | exact Or.inr rfl) (se_cl T.f__law_draw hr tk (by rfl) (sa_cons (se_var 0) (sa_cons (se_var 1) (sa_cons se_int sa_nil)))))
    (ss_one (ss_if (st_cmp (o_eq hu) (se_var 7) se_int (by rfl)) (ss_cons (ss_set 8 sc__law_views.nd (by rfl) (by first | exact Or.inl rfl | exact Or.inr rfl) (se_lc (own := [("world", 10)]) rfl sc__law_views.nd (si_range (by rfl) B.range_ (sa_cons (se_var 4) sa_nil)) (blkOk_by (by kernel_rfl)) (fun _ _ _ _ _ => (sg_name 10 sc__law_views.nd (by rfl) (by first | exact Or.inl rfl | exact Or.inr rfl))) (fun _ _ _ _ _ => sts_nil) (fun _ _ _ _ _ => (se_cl T.f__law_draw hr takes0N (by rfl) (sa_cons (se_var 0) (sa_cons (se_var 1) (sa_cons se_int sa_nil))))) (by decide)))
    (ss_one (ss_expr (se_append (se_var 5) (se_callTy c_tuple (by rfl) B.tuple_ bb_tuple (sa_cons (se_lc (own := [("mark", 12)]) rfl sc__law_views.nd (si_seq (se_var 8)) (blkOk_by (by kernel_rfl)) (fun _ _ _ _ _ => (sg_name 12 sc__law_views.nd (by rfl) (by first | exact Or.inl rfl | exact Or.inr rfl))) (fun _ _ _ _ _ => sts_nil) (fun _ _ _ _ _ => (se_callTy c_tuple (by rfl) B.tuple_ bb_tuple (sa_cons (se_lc (own := [("one", 13)]) rfl sc__law_views.nd (si_range (by rfl) B.range_ (sa_cons (se_var 4) sa_nil)) (blkOk_by (by kernel_rfl)) (fun _ _ _ _ _ => (sg_name 13 sc__law_views.nd (by rfl) (by first | exact Or.inl rfl | exact Or.inr rfl))) (fun _ _ _ _ _ => (sts_one (st_cmp (o_eq hu) (se_ix (se_var 8) (se_var 13) (fun _ _ => rfl)) (se_var 12) (by rfl)))) (fun _ _ _ _ _ => (se_var 13)) (by decide)) sa_nil))) (by decide)) sa_nil)))))) (ss_cons (ss_set 9 sc__law_views.nd (by rfl) (by first | exact Or.inl rfl | exact Or.inr rfl) (se_lstR sa_nil))
    (ss_cons (ss_for hp rfl (si_range (by rfl) B.range_ (sa_cons (se_var 4) sa_nil)) (sg_name 10 sc__law_views.nd (by rfl) (by first | exact Or.inl rfl | exact Or.inr rfl)) (ss_cons (ss_setLc (own := [("one", 13)]) 11 rfl sc__law_views.nd (by rfl) rfl (sw_true rfl rfl rfl (by kernel_rfl)) (si_range (by rfl) B.range_ (sa_cons (se_var 4) sa_nil)) (blkOk_by (by kernel_rfl)) (fun _ _ _ _ _ => (sg_name 13 sc__law_views.nd (by rfl) (by first | exact Or.inl rfl | exact Or.inr rfl))) (fun _ _ _ _ _ => (sts_one (st_cmp (o_eq hu) (se_cl T.f__law_draw hr takes0N (by rfl) (sa_cons (se_var 0) (sa_cons (se_var 1) (sa_cons se_int sa_nil)))) se_int (by rfl)))) (fun _ _ _ _ _ => (se_var 13)) (by decide))
    (ss_one (ss_expr (se_append (se_var 9) (se_callTy c_tuple (by rfl) B.tuple_ bb_tuple (sa_cons (se_sortSet rfl (by rfl) B.sorted_ (by rfl) B.set_ (se_op o_add (se_var 11) (se_op o_mul (se_lst (sa_cons (se_var 10) sa_nil)) (se_callTy c_int (by rfl) B.int_ bb_int (sa_cons (se_cmp (o_eq hu) (se_var 7) se_int (by rfl)) sa_nil))))) sa_nil)))))))
    (ss_one (ss_expr (se_append (se_var 5) (se_callTy c_tuple (by rfl) B.tuple_ bb_tuple (sa_cons (se_var 9) sa_nil)))))))))))
    (ss_one (ss_ret (se_callTy c_tuple (by rfl) B.tuple_ bb_tuple (sa_cons (se_var 5) sa_nil))))))
def m__law_case (F : Nat → FN) : ES :=
  (sSeq (sParN [3, 4] (aCons (eOp vAdd (eC (.int 1)) (eCl 3 (F 16) (aCons (eVar 0) (aCons (eVar 1) (aCons (eC (.int 3)) aNil))))) (aCons (eOp vAdd (eC (.int 1)) (eCl 3 (F 16) (aCons (eVar 0) (aCons (eVar 1) (aCons (eC (.int 3)) aNil))))) aNil)))
    (sSeq (sSet 5 (eLstR aNil))
    (sSeq (sFor (.nm 6) (iRange (aCons (eOp vAdd (eC (.int 1)) (eCl 3 (F 16) (aCons (eVar 0) (aCons (eVar 1) (aCons (eVar 2) aNil))))) aNil)) (sExpr (eAppend (eVar 5) (eCB bTuple (aCons (eLc [8] (.nm 8) (iRange (aCons (eVar 4) aNil)) (eTst (eOp vEq (eCl 3 (F 16) (aCons (eVar 0) (aCons (eVar 1) (aCons (eC (.int 2)) aNil)))) (eC (.int 0)))) (eVar 8)) aNil)))))
    (sSeq (sSet 7 (eTup (aCons (eVar 3) (aCons (eVar 4) (aCons (eCB bTuple (aCons (eVar 5) aNil)) (aCons (eCl 4 (F 18) (aCons (eVar 0) (aCons (eVar 1) (aCons (eVar 3) (aCons (eVar 5) aNil))))) aNil))))))
    (sRet (eTup (aCons (eVar 7) (aCons (eCl 3 (F 16) (aCons (eVar 0) (aCons (eVar 1) (aCons (eCB bLen (aCons (eVar 5) aNil)) aNil)))) aNil))))))))
theorem sc__law_case : FnScope ["script", "town", "bound", "minds", "facts", "worlds", "again", "model", "fact"] ["script", "town", "bound"] (defScope (top 43)) := ⟨rfl, rfl, rfl, by decide +kernel, rfl, by decide +kernel, by decide +kernel⟩
theorem b__law_case (T : Tb cl P w K mg base (k + 3) F) (B : Bl mg) (C : Cs ⟨K, w, cl⟩ mg) (cdv : Value) (A : Around) (outer : List Env) (s : Shared) (H : Hp) (E : XK) (hr : Room (k + 3) (cxOf (L2N.CX P w) P w K mg base ["script", "town", "bound", "minds", "facts", "worlds", "again", "model", "fact"] "_law_case" (defScope (top 43)) fa cdv A outer s H E).A) (tk : L2N.Takes (cxOf (L2N.CX P w) P w K mg base ["script", "town", "bound", "minds", "facts", "worlds", "again", "model", "fact"] "_law_case" (defScope (top 43)) fa cdv A outer s H E) (fun cls d _ H' => E cls d H')) (hp : PassesOwn (model P w) (cxOf (L2N.CX P w) P w K mg base ["script", "town", "bound", "minds", "facts", "worlds", "again", "model", "fact"] "_law_case" (defScope (top 43)) fa cdv A outer s H E).A (cxOf (L2N.CX P w) P w K mg base ["script", "town", "bound", "minds", "facts", "worlds", "again", "model", "fact"] "_law_case" (defScope (top 43)) fa cdv A outer s H E).env (cxOf (L2N.CX P w) P w K mg base ["script", "town", "bound", "minds", "facts", "worlds", "again", "model", "fact"] "_law_case" (defScope (top 43)) fa cdv A outer s H E).xe) :
    SSs cl (cxOf (L2N.CX P w) P w K mg base ["script", "town", "bound", "minds", "facts", "worlds", "again", "model", "fact"] "_law_case" (defScope (top 43)) fa cdv A outer s H E) (fun cls d _ H' => E cls d H') (defBody (top 43)) (m__law_case F) := by
  have hu := units_of hr
  have hr2 := hr.mono (show 2 ≤ k + 3 by omega)
  have hr1 := hr.mono (show 1 ≤ k + 3 by omega)
  exact (ss_cons (ss_par 3 4 rfl sc__law_case.nd (by rfl) (by rfl) (by decide) rfl rfl (sa_cons (se_op o_add se_int (se_cl T.f__law_draw hr tk (by rfl) (sa_cons (se_var 0) (sa_cons (se_var 1) (sa_cons se_int sa_nil))))) (sa_cons (se_op o_add se_int (se_cl T.f__law_draw hr tk (by rfl) (sa_cons (se_var 0) (sa_cons (se_var 1) (sa_cons se_int sa_nil))))) sa_nil)) (by rfl))
    (ss_cons (ss_set 5 sc__law_case.nd (by rfl) (by first | exact Or.inl rfl | exact Or.inr rfl) (se_lstR sa_nil))
    (ss_cons (ss_for hp rfl (si_range (by rfl) B.range_ (sa_cons (se_op o_add se_int (se_cl T.f__law_draw hr tk (by rfl) (sa_cons (se_var 0) (sa_cons (se_var 1) (sa_cons (se_var 2) sa_nil))))) sa_nil)) (sg_name 6 sc__law_case.nd (by rfl) (by first | exact Or.inl rfl | exact Or.inr rfl)) (ss_one (ss_expr (se_append (se_var 5) (se_callTy c_tuple (by rfl) B.tuple_ bb_tuple (sa_cons (se_lc (own := [("fact", 8)]) rfl sc__law_case.nd (si_range (by rfl) B.range_ (sa_cons (se_var 4) sa_nil)) (blkOk_by (by kernel_rfl)) (fun _ _ _ _ _ => (sg_name 8 sc__law_case.nd (by rfl) (by first | exact Or.inl rfl | exact Or.inr rfl))) (fun _ _ _ _ _ => (sts_one (st_cmp (o_eq hu) (se_cl T.f__law_draw hr takes0N (by rfl) (sa_cons (se_var 0) (sa_cons (se_var 1) (sa_cons se_int sa_nil)))) se_int (by rfl)))) (fun _ _ _ _ _ => (se_var 8)) (by decide)) sa_nil))))))
    (ss_cons (ss_set 7 sc__law_case.nd (by rfl) (by first | exact Or.inl rfl | exact Or.inr rfl) (se_tup (sa_cons (se_var 3) (sa_cons (se_var 4) (sa_cons (se_callTy c_tuple (by rfl) B.tuple_ bb_tuple (sa_cons (se_var 5) sa_nil)) (sa_cons (se_cl T.f__law_views hr tk (by rfl) (sa_cons (se_var 0) (sa_cons (se_var 1) (sa_cons (se_var 3) (sa_cons (se_var 5) sa_nil))))) sa_nil))))))
    (ss_one (ss_ret (se_tup (sa_cons (se_var 7) (sa_cons (se_cl T.f__law_draw hr tk (by rfl) (sa_cons (se_var 0) (sa_cons (se_var 1) (sa_cons (se_callB c_len (by rfl) B.len_ bb_len (sa_cons (se_var 5) sa_nil)) sa_nil)))) sa_nil)))))))))
theorem sc__law_which : FnScope ["e", "own"] ["e"] (defScope (top 44)) := ⟨rfl, rfl, rfl, by decide +kernel, rfl, by decide +kernel, by decide +kernel⟩
theorem b__law_which (T : XT K mg cl (List.range 18)) (B : Bl mg) (cdv : Value) (A : Around) (outer : List Env) (s : Shared) (H : Hp) (E : XK) (A0 : Addr) (oe : Obj) (d : Option Addr) (j : Nat) (hj : j ∈ List.range 18) (hz : L2N.Zn (.ref (cl j)) d oe) (hf : ∃ vs, oe.data = .fields vs) (hr : L2H.RoomH 0 (L2H.cxH (L2N.CX P w) P w K mg base ["e", "own"] "_law_which" (defScope (top 44)) fa cdv A outer s H E (A0, oe)).A) :
    SSs cl (L2H.cxH (L2N.CX P w) P w K mg base ["e", "own"] "_law_which" (defScope (top 44)) fa cdv A outer s H E (A0, oe)) (fun cls d _ H' => E cls d H') (defBody (top 44)) (mWh A0 d j) := by
  have hu : (L2H.cxH (L2N.CX P w) P w K mg base ["e", "own"] "_law_which" (defScope (top 44)) fa cdv A outer s H E (A0, oe)).A.units + 200 < cLine := by have := hr.un; omega
  exact (ss_cons (ss_set 1 sc__law_which.nd (by rfl) (by first | exact Or.inl rfl | exact Or.inr rfl) (se_lstR (sa_cons (se_isX T hj List.mem_cons_self hz hf 1 (by decide) rfl (se_var 0) (by rfl) B.isinstance_ (by rfl)) (sa_cons (se_isX T hj List.mem_cons_self hz hf 2 (by decide) rfl (se_var 0) (by rfl) B.isinstance_ (by rfl)) (sa_cons (se_isX T hj List.mem_cons_self hz hf 3 (by decide) rfl (se_var 0) (by rfl) B.isinstance_ (by rfl)) (sa_cons (se_isX T hj List.mem_cons_self hz hf 4 (by decide) rfl (se_var 0) (by rfl) B.isinstance_ (by rfl)) sa_nil))))))
    (ss_cons (ss_expr (se_extend (se_var 1) (se_lst (sa_cons (se_isX T hj List.mem_cons_self hz hf 5 (by decide) rfl (se_var 0) (by rfl) B.isinstance_ (by rfl)) (sa_cons (se_isX T hj List.mem_cons_self hz hf 6 (by decide) rfl (se_var 0) (by rfl) B.isinstance_ (by rfl)) (sa_cons (se_isX T hj List.mem_cons_self hz hf 7 (by decide) rfl (se_var 0) (by rfl) B.isinstance_ (by rfl)) (sa_cons (se_isX T hj List.mem_cons_self hz hf 8 (by decide) rfl (se_var 0) (by rfl) B.isinstance_ (by rfl)) sa_nil)))))))
    (ss_cons (ss_expr (se_extend (se_var 1) (se_lst (sa_cons (se_isX T hj List.mem_cons_self hz hf 9 (by decide) rfl (se_var 0) (by rfl) B.isinstance_ (by rfl)) (sa_cons (se_isX T hj List.mem_cons_self hz hf 10 (by decide) rfl (se_var 0) (by rfl) B.isinstance_ (by rfl)) (sa_cons (se_isX T hj List.mem_cons_self hz hf 11 (by decide) rfl (se_var 0) (by rfl) B.isinstance_ (by rfl)) (sa_cons (se_isX T hj List.mem_cons_self hz hf 12 (by decide) rfl (se_var 0) (by rfl) B.isinstance_ (by rfl)) sa_nil)))))))
    (ss_cons (ss_expr (se_extend (se_var 1) (se_lst (sa_cons (se_isX T hj List.mem_cons_self hz hf 13 (by decide) rfl (se_var 0) (by rfl) B.isinstance_ (by rfl)) (sa_cons (se_isX T hj List.mem_cons_self hz hf 14 (by decide) rfl (se_var 0) (by rfl) B.isinstance_ (by rfl)) (sa_cons (se_isX T hj List.mem_cons_self hz hf 15 (by decide) rfl (se_var 0) (by rfl) B.isinstance_ (by rfl)) (sa_cons (se_isX T hj List.mem_cons_self hz hf 16 (by decide) rfl (se_var 0) (by rfl) B.isinstance_ (by rfl)) sa_nil)))))))
    (ss_cons (ss_expr (se_append (se_var 1) (se_isX T hj List.mem_cons_self hz hf 17 (by decide) rfl (se_var 0) (by rfl) B.isinstance_ (by rfl))))
    (ss_cons (ss_if (st_bool (sw_or (st_cmp (o_ne hu) (se_count hu (se_var 1) se_bl) se_int (by rfl)) (sw_one_or (st_not (st_val (se_isVE T hj List.mem_cons_self hz hf (se_var 0) (by rfl) B.isinstance_ (by rfl) (B.g "ValueError"))))))) (ss_one (ss_ret (se_tup (sa_cons se_str (sa_cons (se_neg se_int) sa_nil))))) ss_nil)
    (ss_one (ss_ret (se_tup (sa_cons se_str (sa_cons (se_index hu (se_var 1) se_bl) sa_nil)))))))))))
def m__law_ask (F : Nat → FN) : ES :=
  (sTry (List.range 18) 1 (sRet (eCl 1 (F 13) (aCons (eVar 0) aNil))) ((0, hWh) :: []))
theorem sc__law_ask : FnScope ["text", "e"] ["text"] (defScope (top 45)) := ⟨rfl, rfl, rfl, by decide +kernel, rfl, by decide +kernel, by decide +kernel⟩
theorem b__law_ask (T : Tb cl P w K mg base (k + 3) F) (B : Bl mg) (C : Cs ⟨K, w, cl⟩ mg) (cdv : Value) (A : Around) (outer : List Env) (s : Shared) (H : Hp) (E : XK) (hr : Room (k + 3) (cxOf (L2N.CX P w) P w K mg base ["text", "e"] "_law_ask" (defScope (top 45)) fa cdv A outer s H E).A) (tk : L2N.Takes (cxOf (L2N.CX P w) P w K mg base ["text", "e"] "_law_ask" (defScope (top 45)) fa cdv A outer s H E) (fun cls d _ H' => E cls d H')) (hp : PassesOwn (model P w) (cxOf (L2N.CX P w) P w K mg base ["text", "e"] "_law_ask" (defScope (top 45)) fa cdv A outer s H E).A (cxOf (L2N.CX P w) P w K mg base ["text", "e"] "_law_ask" (defScope (top 45)) fa cdv A outer s H E).env (cxOf (L2N.CX P w) P w K mg base ["text", "e"] "_law_ask" (defScope (top 45)) fa cdv A outer s H E).xe) :
    SSs cl (cxOf (L2N.CX P w) P w K mg base ["text", "e"] "_law_ask" (defScope (top 45)) fa cdv A outer s H E) (fun cls d _ H' => E cls d H') (defBody (top 45)) (m__law_ask F) := by
  have hu := units_of hr
  have hr2 := hr.mono (show 2 ≤ k + 3 by omega)
  have hr1 := hr.mono (show 1 ≤ k + 3 by omega)
  exact (ss_one (ss_try (i := 1) (n := "e") T.xt rfl rfl sc__law_ask.nd tk (fun W pn xe tk hp => (ss_one (ss_ret (se_cl T.f_read_case hr tk (by rfl) (sa_cons (se_var 0) sa_nil))))) (.named 0 (by decide) rfl (by rfl) (by decide) (he_wh T.wh hr1 (by rfl) (by rfl)) (by rfl) (by rfl) .nil)))
def m__law_some (F : Nat → FN) : ES :=
  (sRet (eIf (eTst (eOp vNe (eVar 0) (eTup aNil))) (eJoin (eC (.str " ")) (eLc [1] (.nm 1) (iSeq (eVar 0)) kYes (eCB bStrI (aCons (eVar 1) aNil)))) (eC (.str "-"))))
theorem sc__law_some : FnScope ["numbers", "number"] ["numbers"] (defScope (top 46)) := ⟨rfl, rfl, rfl, by decide +kernel, rfl, by decide +kernel, by decide +kernel⟩
theorem b__law_some (T : Tb cl P w K mg base (k + 3) F) (B : Bl mg) (C : Cs ⟨K, w, cl⟩ mg) (cdv : Value) (A : Around) (outer : List Env) (s : Shared) (H : Hp) (E : XK) (hr : Room (k + 3) (cxOf (L2N.CX P w) P w K mg base ["numbers", "number"] "_law_some" (defScope (top 46)) fa cdv A outer s H E).A) (tk : L2N.Takes (cxOf (L2N.CX P w) P w K mg base ["numbers", "number"] "_law_some" (defScope (top 46)) fa cdv A outer s H E) (fun cls d _ H' => E cls d H')) (hp : PassesOwn (model P w) (cxOf (L2N.CX P w) P w K mg base ["numbers", "number"] "_law_some" (defScope (top 46)) fa cdv A outer s H E).A (cxOf (L2N.CX P w) P w K mg base ["numbers", "number"] "_law_some" (defScope (top 46)) fa cdv A outer s H E).env (cxOf (L2N.CX P w) P w K mg base ["numbers", "number"] "_law_some" (defScope (top 46)) fa cdv A outer s H E).xe) :
    SSs cl (cxOf (L2N.CX P w) P w K mg base ["numbers", "number"] "_law_some" (defScope (top 46)) fa cdv A outer s H E) (fun cls d _ H' => E cls d H') (defBody (top 46)) (m__law_some F) := by
  have hu := units_of hr
  have hr2 := hr.mono (show 2 ≤ k + 3 by omega)
  have hr1 := hr.mono (show 1 ≤ k + 3 by omega)
  exact (ss_one (ss_ret (se_if (st_cmp (o_ne hu) (se_var 0) (se_tup sa_nil) (by rfl)) (se_join se_str (se_lc (own := [("number", 1)]) rfl sc__law_some.nd (si_seq (se_var 0)) (blkOk_by (by kernel_rfl)) (fun _ _ _ _ _ => (sg_name 1 sc__law_some.nd (by rfl) (by first | exact Or.inl rfl | exact Or.inr rfl))) (fun _ _ _ _ _ => sts_nil) (fun _ _ _ _ _ => (se_callTy c_strI (by rfl) B.str_ bb_str (sa_cons (se_var 1) sa_nil))) (by decide))) se_str)))
def m__law_text (F : Nat → FN) : ES :=
  (sSeq (sSetT (.tp [1, 2]) (eVar 0))
    (sSeq (sSet 3 (eOp vAdd (eLst (aCons (eOp vIx (eVar 1) (eC (.int 2))) aNil)) (eCB bList (aCons (eOp vIx (eVar 1) (eC (.int 3))) aNil))))
    (sSeq (sSet 4 (eOp vAdd (eLst (aCons (eOp vAdd (eOp vAdd (eCB bStrI (aCons (eOp vIx (eVar 1) (eC (.int 0))) aNil)) (eC (.str " "))) (eCB bStrI (aCons (eOp vIx (eVar 1) (eC (.int 1))) aNil))) aNil)) (eLc [5] (.nm 5) (iSeq (eVar 3)) kYes (eJoin (eC (.str ", ")) (eLc [6] (.nm 6) (iSeq (eVar 5)) kYes (eCl 1 (F 22) (aCons (eVar 6) aNil)))))))
    (sRet (eJoin (eC (.str " | ")) (eOp vAdd (eVar 4) (eLst (aCons (eCB bStrI (aCons (eVar 2) aNil)) aNil))))))))
theorem sc__law_text : FnScope ["case", "model", "world", "rows", "pieces", "row", "some"] ["case"] (defScope (top 47)) := ⟨rfl, rfl, rfl, by decide +kernel, rfl, by decide +kernel, by decide +kernel⟩
theorem b__law_text (T : Tb cl P w K mg base (k + 3) F) (B : Bl mg) (C : Cs ⟨K, w, cl⟩ mg) (cdv : Value) (A : Around) (outer : List Env) (s : Shared) (H : Hp) (E : XK) (hr : Room (k + 3) (cxOf (L2N.CX P w) P w K mg base ["case", "model", "world", "rows", "pieces", "row", "some"] "_law_text" (defScope (top 47)) fa cdv A outer s H E).A) (tk : L2N.Takes (cxOf (L2N.CX P w) P w K mg base ["case", "model", "world", "rows", "pieces", "row", "some"] "_law_text" (defScope (top 47)) fa cdv A outer s H E) (fun cls d _ H' => E cls d H')) (hp : PassesOwn (model P w) (cxOf (L2N.CX P w) P w K mg base ["case", "model", "world", "rows", "pieces", "row", "some"] "_law_text" (defScope (top 47)) fa cdv A outer s H E).A (cxOf (L2N.CX P w) P w K mg base ["case", "model", "world", "rows", "pieces", "row", "some"] "_law_text" (defScope (top 47)) fa cdv A outer s H E).env (cxOf (L2N.CX P w) P w K mg base ["case", "model", "world", "rows", "pieces", "row", "some"] "_law_text" (defScope (top 47)) fa cdv A outer s H E).xe) :
    SSs cl (cxOf (L2N.CX P w) P w K mg base ["case", "model", "world", "rows", "pieces", "row", "some"] "_law_text" (defScope (top 47)) fa cdv A outer s H E) (fun cls d _ H' => E cls d H') (defBody (top 47)) (m__law_text F) := by
  have hu := units_of hr
  have hr2 := hr.mono (show 2 ≤ k + 3 by omega)
  have hr1 := hr.mono (show 1 ≤ k + 3 by omega)
  exact (ss_cons (ss_setT (se_var 0) (sg_tup (by rfl) (sgs_cons 1 sc__law_text.nd (by rfl) (by first | exact Or.inl rfl | exact Or.inr rfl) (sgs_cons 2 sc__law_text.nd (by rfl) (by first | exact Or.inl rfl | exact Or.inr rfl) sgs_nil))))
    (ss_cons (ss_set 3 sc__law_text.nd (by rfl) (by first | exact Or.inl rfl | exact Or.inr rfl) (se_op o_add (se_lst (sa_cons (se_ix (se_var 1) se_int (fun _ _ => rfl)) sa_nil)) (se_callTy c_list (by rfl) B.list_ bb_list (sa_cons (se_ix (se_var 1) se_int (fun _ _ => rfl)) sa_nil))))
    (ss_cons (ss_set 4 sc__law_text.nd (by rfl) (by first | exact Or.inl rfl | exact Or.inr rfl) (se_op o_add (se_lst (sa_cons (se_op o_add (se_op o_add (se_callTy c_strI (by rfl) B.str_ bb_str (sa_cons (se_ix (se_var 1) se_int (fun _ _ => rfl)) sa_nil)) se_str) (se_callTy c_strI (by rfl) B.str_ bb_str (sa_cons (se_ix (se_var 1) se_int (fun _ _ => rfl)) sa_nil))) sa_nil)) (se_lc (own := [("row", 5)]) rfl sc__law_text.nd (si_seq (se_var 3)) (blkOk_by (by kernel_rfl)) (fun _ _ _ _ _ => (sg_name 5 sc__law_text.nd (by rfl) (by first | exact Or.inl rfl | exact Or.inr rfl))) (fun _ _ _ _ _ => sts_nil) (fun _ _ _ _ _ => (se_join se_str (se_lc (own := [("some", 6)]) rfl sc__law_text.nd (si_seq (se_var 5)) (blkOk_by (by kernel_rfl)) (fun _ _ _ _ _ => (sg_name 6 sc__law_text.nd (by rfl) (by first | exact Or.inl rfl | exact Or.inr rfl))) (fun _ _ _ _ _ => sts_nil) (fun _ _ _ _ _ => (se_cl T.f__law_some hr takes0N (by rfl) (sa_cons (se_var 6) sa_nil))) (by decide)))) (by decide))))
    (ss_one (ss_ret (se_join se_str (se_op o_add (se_var 4) (se_lst (sa_cons (se_callTy c_strI (by rfl) B.str_ bb_str (sa_cons (se_var 2) sa_nil)) sa_nil)))))))))
def m__law_numbers (F : Nat → FN) : ES :=
  (sSeq (sSet 1 (eLc [2] (.nm 2) (iRange (aCons (eC (.int 100)) aNil)) kYes (eCB bStrI (aCons (eVar 2) aNil))))
    (sSeq (sIf (eTst (eOp vEq (eVar 0) (eC (.str "-")))) (sRet (eTup aNil)) sNx)
    (sRet (eCB bTuple (aCons (eLc [3] (.nm 3) (iSeq (eSplit (eVar 0) (eC (.str " ")))) kYes (eIf (eTst (eOp vIn (eVar 3) (eVar 1))) (eIndex (eVar 1) (eVar 3)) (eC .none))) aNil)))))
theorem sc__law_numbers : FnScope ["text", "figures", "number", "word"] ["text"] (defScope (top 48)) := ⟨rfl, rfl, rfl, by decide +kernel, rfl, by decide +kernel, by decide +kernel⟩
theorem b__law_numbers (T : Tb cl P w K mg base (k + 3) F) (B : Bl mg) (C : Cs ⟨K, w, cl⟩ mg) (cdv : Value) (A : Around) (outer : List Env) (s : Shared) (H : Hp) (E : XK) (hr : Room (k + 3) (cxOf (L2N.CX P w) P w K mg base ["text", "figures", "number", "word"] "_law_numbers" (defScope (top 48)) fa cdv A outer s H E).A) (tk : L2N.Takes (cxOf (L2N.CX P w) P w K mg base ["text", "figures", "number", "word"] "_law_numbers" (defScope (top 48)) fa cdv A outer s H E) (fun cls d _ H' => E cls d H')) (hp : PassesOwn (model P w) (cxOf (L2N.CX P w) P w K mg base ["text", "figures", "number", "word"] "_law_numbers" (defScope (top 48)) fa cdv A outer s H E).A (cxOf (L2N.CX P w) P w K mg base ["text", "figures", "number", "word"] "_law_numbers" (defScope (top 48)) fa cdv A outer s H E).env (cxOf (L2N.CX P w) P w K mg base ["text", "figures", "number", "word"] "_law_numbers" (defScope (top 48)) fa cdv A outer s H E).xe) :
    SSs cl (cxOf (L2N.CX P w) P w K mg base ["text", "figures", "number", "word"] "_law_numbers" (defScope (top 48)) fa cdv A outer s H E) (fun cls d _ H' => E cls d H') (defBody (top 48)) (m__law_numbers F) := by
  have hu := units_of hr
  have hr2 := hr.mono (show 2 ≤ k + 3 by omega)
  have hr1 := hr.mono (show 1 ≤ k + 3 by omega)
  exact (ss_cons (ss_set 1 sc__law_numbers.nd (by rfl) (by first | exact Or.inl rfl | exact Or.inr rfl) (se_lc (own := [("number", 2)]) rfl sc__law_numbers.nd (si_range (by rfl) B.range_ (sa_cons se_int sa_nil)) (blkOk_by (by kernel_rfl)) (fun _ _ _ _ _ => (sg_name 2 sc__law_numbers.nd (by rfl) (by first | exact Or.inl rfl | exact Or.inr rfl))) (fun _ _ _ _ _ => sts_nil) (fun _ _ _ _ _ => (se_callTy c_strI (by rfl) B.str_ bb_str (sa_cons (se_var 2) sa_nil))) (by decide)))
    (ss_cons (ss_if (st_cmp (o_eq hu) (se_var 0) se_str (by rfl)) (ss_one (ss_ret (se_tup sa_nil))) ss_nil)
    (ss_one (ss_ret (se_callTy c_tuple (by rfl) B.tuple_ bb_tuple (sa_cons (se_lc (own := [("word", 3)]) rfl sc__law_numbers.nd (si_seq (se_split (se_var 0) se_str)) (blkOk_by (by kernel_rfl)) (fun _ _ _ _ _ => (sg_name 3 sc__law_numbers.nd (by rfl) (by first | exact Or.inl rfl | exact Or.inr rfl))) (fun _ _ _ _ _ => sts_nil) (fun _ _ _ _ _ => (se_if (st_cmp (o_in hu) (se_var 3) (se_var 1) (by rfl)) (se_index hu (se_var 1) (se_var 3)) se_non)) (by decide)) sa_nil))))))
def m__law_parse (F : Nat → FN) : ES :=
  (sSeq (sSet 1 (eSplit (eVar 0) (eC (.str " | "))))
    (sSeq (sParN [2, 3] (aCons (eCl 1 (F 24) (aCons (eOp vIx (eVar 1) (eC (.int 0))) aNil)) (aCons (eCl 1 (F 24) (aCons (eOp vIx (eVar 1) (eNeg (eC (.int 1)))) aNil)) aNil)))
    (sSeq (sIf (kOr (eTst (eOp (pur2 (dI iLt)) (eCB bLen (aCons (eVar 1) aNil)) (eC (.int 3)))) (kOr (eTst (eOp vNe (eCB bLen (aCons (eVar 2) aNil)) (eC (.int 2)))) (eTst (eOp vNe (eCB bLen (aCons (eVar 3) aNil)) (eC (.int 1)))))) (sRet (eC .none)) sNx)
    (sSeq (sSet 4 (eLc [6] (.nm 6) (iSeq (eSl (eVar 1) (oSome (eC (.int 1))) (oSome (eNeg (eC (.int 1)))))) kYes (eCB bTuple (aCons (eLc [7] (.nm 7) (iSeq (eSplit (eVar 6) (eC (.str ", ")))) kYes (eCl 1 (F 24) (aCons (eVar 7) aNil))) aNil))))
    (sSeq (sSet 5 (eTup (aCons (eTup (aCons (eOp vIx (eVar 2) (eC (.int 0))) (aCons (eOp vIx (eVar 2) (eC (.int 1))) (aCons (eOp vIx (eVar 4) (eC (.int 0))) (aCons (eCB bTuple (aCons (eSl (eVar 4) (oSome (eC (.int 1))) oNone) aNil)) aNil))))) (aCons (eOp vIx (eVar 3) (eC (.int 0))) aNil))))
    (sRet (eIf (kAnd (eTst (eCl 1 (F 4) (aCons (eVar 5) aNil))) (eTst (eOp vEq (eCl 1 (F 23) (aCons (eVar 5) aNil)) (eVar 0)))) (eVar 5) (eC .none))))))))
theorem sc__law_parse : FnScope ["text", "pieces", "head", "last", "rows", "made", "part", "one"] ["text"] (defScope (top 49)) := ⟨rfl, rfl, rfl, by decide +kernel, rfl, by decide +kernel, by decide +kernel⟩
theorem b__law_parse (T : Tb cl P w K mg base (k + 3) F) (B : Bl mg) (C : Cs ⟨K, w, cl⟩ mg) (cdv : Value) (A : Around) (outer : List Env) (s : Shared) (H : Hp) (E : XK) (hr : Room (k + 3) (cxOf (L2N.CX P w) P w K mg base ["text", "pieces", "head", "last", "rows", "made", "part", "one"] "_law_parse" (defScope (top 49)) fa cdv A outer s H E).A) (tk : L2N.Takes (cxOf (L2N.CX P w) P w K mg base ["text", "pieces", "head", "last", "rows", "made", "part", "one"] "_law_parse" (defScope (top 49)) fa cdv A outer s H E) (fun cls d _ H' => E cls d H')) (hp : PassesOwn (model P w) (cxOf (L2N.CX P w) P w K mg base ["text", "pieces", "head", "last", "rows", "made", "part", "one"] "_law_parse" (defScope (top 49)) fa cdv A outer s H E).A (cxOf (L2N.CX P w) P w K mg base ["text", "pieces", "head", "last", "rows", "made", "part", "one"] "_law_parse" (defScope (top 49)) fa cdv A outer s H E).env (cxOf (L2N.CX P w) P w K mg base ["text", "pieces", "head", "last", "rows", "made", "part", "one"] "_law_parse" (defScope (top 49)) fa cdv A outer s H E).xe) :
    SSs cl (cxOf (L2N.CX P w) P w K mg base ["text", "pieces", "head", "last", "rows", "made", "part", "one"] "_law_parse" (defScope (top 49)) fa cdv A outer s H E) (fun cls d _ H' => E cls d H') (defBody (top 49)) (m__law_parse F) := by
  have hu := units_of hr
  have hr2 := hr.mono (show 2 ≤ k + 3 by omega)
  have hr1 := hr.mono (show 1 ≤ k + 3 by omega)
  exact (ss_cons (ss_set 1 sc__law_parse.nd (by rfl) (by first | exact Or.inl rfl | exact Or.inr rfl) (se_split (se_var 0) se_str))
    (ss_cons (ss_par 2 3 rfl sc__law_parse.nd (by rfl) (by rfl) (by decide) rfl rfl (sa_cons (se_cl T.f__law_numbers hr tk (by rfl) (sa_cons (se_ix (se_var 1) se_int (fun _ _ => rfl)) sa_nil)) (sa_cons (se_cl T.f__law_numbers hr tk (by rfl) (sa_cons (se_ix (se_var 1) (se_neg se_int) (fun _ _ => rfl)) sa_nil)) sa_nil)) (by rfl))
    (ss_cons (ss_if (st_bool (sw_or (st_cmp o_lt (se_callB c_len (by rfl) B.len_ bb_len (sa_cons (se_var 1) sa_nil)) se_int (by rfl)) (sw_or (st_cmp (o_ne hu) (se_callB c_len (by rfl) B.len_ bb_len (sa_cons (se_var 2) sa_nil)) se_int (by rfl)) (sw_one_or (st_cmp (o_ne hu) (se_callB c_len (by rfl) B.len_ bb_len (sa_cons (se_var 3) sa_nil)) se_int (by rfl)))))) (ss_one (ss_ret se_non)) ss_nil)
    (ss_cons (ss_setLc (own := [("part", 6)]) 4 rfl sc__law_parse.nd (by rfl) rfl (sw_true rfl rfl rfl (by kernel_rfl)) (si_seq (se_slice (se_var 1) (so_some se_int) (so_some (se_neg se_int)))) (blkOk_by (by kernel_rfl)) (fun _ _ _ _ _ => (sg_name 6 sc__law_parse.nd (by rfl) (by first | exact Or.inl rfl | exact Or.inr rfl))) (fun _ _ _ _ _ => sts_nil) (fun _ _ _ _ _ => (se_callTy c_tuple (by rfl) B.tuple_ bb_tuple (sa_cons (se_lc (own := [("one", 7)]) rfl sc__law_parse.nd (si_seq (se_split (se_var 6) se_str)) (blkOk_by (by kernel_rfl)) (fun _ _ _ _ _ => (sg_name 7 sc__law_parse.nd (by rfl) (by first | exact Or.inl rfl | exact Or.inr rfl))) (fun _ _ _ _ _ => sts_nil) (fun _ _ _ _ _ => (se_cl T.f__law_numbers hr takes0N (by rfl) (sa_cons (se_var 7) sa_nil))) (by decide)) sa_nil))) (by decide))
    (ss_cons (ss_set 5 sc__law_parse.nd (by rfl) (by first | exact Or.inl rfl | exact Or.inr rfl) (se_tup (sa_cons (se_tup (sa_cons (se_ix (se_var 2) se_int (fun _ _ => rfl)) (sa_cons (se_ix (se_var 2) se_int (fun _ _ => rfl)) (sa_cons (se_ix (se_var 4) se_int (fun _ _ => rfl)) (sa_cons (se_callTy c_tuple (by rfl) B.tuple_ bb_tuple (sa_cons (se_slice (se_var 4) (so_some se_int) so_none) sa_nil)) sa_nil))))) (sa_cons (se_ix (se_var 3) se_int (fun _ _ => rfl)) sa_nil))))
    (ss_one (ss_ret (se_if (st_bool (sw_and (st_val (se_cl T.f_is_case hr tk (by rfl) (sa_cons (se_var 5) sa_nil))) (sw_one_and (st_cmp (o_eq hu) (se_cl T.f__law_text hr tk (by rfl) (sa_cons (se_var 5) sa_nil)) (se_var 0) (by rfl))))) (se_var 5) se_non))))))))
def m_law (F : Nat → FN) : ES :=
  (sSeq (sSet 1 (eLstR aNil))
    (sSeq (sSet 2 (eCl 3 (F 19) (aCons (eVar 0) (aCons (eVar 1) (aCons (eC (.int 6)) aNil)))))
    (sSeq (sSet 3 (eCl 1 (F 23) (aCons (eVar 2) aNil)))
    (sSeq (sIf (kOr (eTst (eOp vNe (eCl 1 (F 10) (aCons (eVar 2) aNil)) (eVar 3))) (eTst (eOp vNe (eCl 1 (F 21) (aCons (eVar 3) aNil)) (eVar 2)))) (sRet (eC (.bool false))) sNx)
    (sSeq (sFor (.nm 4) (iRange (aCons (eC (.int 6)) aNil)) (sSeq (sSet 5 (eCl 3 (F 16) (aCons (eVar 0) (aCons (eVar 1) (aCons (eCB bLenS (aCons (eVar 3) aNil)) aNil)))))
    (sSeq (sSet 6 (eCl 3 (F 17) (aCons (eVar 0) (aCons (eVar 1) (aCons (eLst (aCons (eC (.str "0")) (aCons (eC (.str "1")) (aCons (eC (.str "2")) (aCons (eC (.str "5")) (aCons (eC (.str " ")) (aCons (eC (.str ",")) (aCons (eC (.str "|")) (aCons (eC (.str "-")) (aCons (eC (.str "")) (aCons (eC (.str "x")) (aCons (eC (.str ", ")) (aCons (eC (.str " | ")) (aCons (eC (.str "- ")) (aCons (eC (.str "00")) aNil))))))))))))))) aNil)))))
    (sSeq (sSet 7 (eOp vAdd (eOp vAdd (eSlT (eVar 3) oNone (oSome (eVar 5))) (eVar 6)) (eSlT (eVar 3) (oSome (eOp vAdd (eVar 5) (eCl 3 (F 16) (aCons (eVar 0) (aCons (eVar 1) (aCons (eC (.int 2)) aNil)))))) oNone)))
    (sSeq (sSet 8 (eCl 1 (F 25) (aCons (eVar 7) aNil)))
    (sIf (eTst (eOp vNe (eCl 1 (F 21) (aCons (eVar 7) aNil)) (eIf (eTst (eOp vNotN (eVar 8) (eC .none))) (eVar 8) (eTup (aCons (eC (.str "refused")) (aCons (eC (.int 10)) aNil)))))) (sRet (eC (.bool false))) sNx))))))
    (sSeq (sSet 9 (eLst (aCons (eC .none) (aCons (eC (.int 5)) (aCons (eC (.str "")) (aCons (eC (.str "1 1")) (aCons (eC (.str "1 1 | - | 0")) (aCons (eC (.str "1 1 | - | 0 | ")) (aCons (eC (.str "1 1 | - | 0 | 0 | 0")) (aCons (eOp vAdd (eVar 3) (eC (.str " "))) (aCons (eOp vAdd (eC (.str " ")) (eVar 3)) aNil)))))))))))
    (sSeq (sFor (.nm 10) (iSeq (eOp vAdd (eVar 9) (eLst (aCons (eLst (aCons (eC (.str "1 1 | - | 0 | 0")) aNil)) aNil)))) (sIf (eTst (eOp vNe (eCl 1 (F 21) (aCons (eVar 10) aNil)) (eTup (aCons (eC (.str "refused")) (aCons (eC (.int 10)) aNil))))) (sRet (eC (.bool false))) sNx))
    (sSeq (sSet 11 (eOp vAdd (eC (.int 98)) (eCl 3 (F 16) (aCons (eVar 0) (aCons (eVar 1) (aCons (eC (.int 9)) aNil))))))
    (sSeq (sSet 12 (eTup (aCons (eTup (aCons (eC (.int 1)) (aCons (eC (.int 1)) (aCons (eOp vMul (eTup (aCons (eTup (aCons (eC (.int 0)) aNil)) aNil)) (eVar 11)) (aCons (eTup (aCons (eCB bTuple (aCons (eLc [13] (.nm 13) (iRange (aCons (eVar 11) aNil)) kYes (eTup (aCons (eVar 13) aNil))) aNil)) aNil)) aNil))))) (aCons (eOp (pur2 (dI iSub)) (eVar 11) (eC (.int 1))) aNil))))
    (sSeq (sIf (kOr (eTst (eOp vNe (eCl 1 (F 10) (aCons (eVar 12) aNil)) (eCl 1 (F 23) (aCons (eVar 12) aNil)))) (eTst (eOp vNe (eCl 1 (F 21) (aCons (eCl 1 (F 23) (aCons (eVar 12) aNil)) aNil)) (eVar 12)))) (sRet (eC (.bool false))) sNx)
    (sSeq (sIf (eTst (eOp vNe (eCl 1 (F 21) (aCons (eC (.str "1 1 | - | 1 | 0")) aNil)) (eTup (aCons (eC (.str "refused")) (aCons (eC (.int 10)) aNil))))) (sRet (eC (.bool false))) sNx)
    (sRet (eOp vEq (eCl 1 (F 21) (aCons (eC (.str "1 1 | - | 0 | 0")) aNil)) (eTup (aCons (eTup (aCons (eC (.int 1)) (aCons (eC (.int 1)) (aCons (eTup (aCons (eTup aNil) aNil)) (aCons (eTup (aCons (eTup (aCons (eTup (aCons (eC (.int 0)) aNil)) aNil)) aNil)) aNil))))) (aCons (eC (.int 0)) aNil))))))))))))))))
theorem sc_law : FnScope ["script", "town", "case", "text", "again", "at", "sign", "spoilt", "due", "some", "off", "many", "wide", "one"] ["script"] (defScope (top 50)) := ⟨rfl, rfl, rfl, by decide +kernel, rfl, by decide +kernel, by decide +kernel⟩
theorem b_law (T : Tb cl P w K mg base (k + 3) F) (B : Bl mg) (C : Cs ⟨K, w, cl⟩ mg) (cdv : Value) (A : Around) (outer : List Env) (s : Shared) (H : Hp) (E : XK) (hr : Room (k + 3) (cxOf (L2N.CX P w) P w K mg base ["script", "town", "case", "text", "again", "at", "sign", "spoilt", "due", "some", "off", "many", "wide", "one"] "law" (defScope (top 50)) fa cdv A outer s H E).A) (tk : L2N.Takes (cxOf (L2N.CX P w) P w K mg base ["script", "town", "case", "text", "again", "at", "sign", "spoilt", "due", "some", "off", "many", "wide", "one"] "law" (defScope (top 50)) fa cdv A outer s H E) (fun cls d _ H' => E cls d H')) (hp : PassesOwn (model P w) (cxOf (L2N.CX P w) P w K mg base ["script", "town", "case", "text", "again", "at", "sign", "spoilt", "due", "some", "off", "many", "wide", "one"] "law" (defScope (top 50)) fa cdv A outer s H E).A (cxOf (L2N.CX P w) P w K mg base ["script", "town", "case", "text", "again", "at", "sign", "spoilt", "due", "some", "off", "many", "wide", "one"] "law" (defScope (top 50)) fa cdv A outer s H E).env (cxOf (L2N.CX P w) P w K mg base ["script", "town", "case", "text", "again", "at", "sign", "spoilt", "due", "some", "off", "many", "wide", "one"] "law" (defScope (top 50)) fa cdv A outer s H E).xe) :
    SSs cl (cxOf (L2N.CX P w) P w K mg base ["script", "town", "case", "text", "again", "at", "sign", "spoilt", "due", "some", "off", "many", "wide", "one"] "law" (defScope (top 50)) fa cdv A outer s H E) (fun cls d _ H' => E cls d H') (defBody (top 50)) (m_law F) := by
  have hu := units_of hr
  have hr2 := hr.mono (show 2 ≤ k + 3 by omega)
  have hr1 := hr.mono (show 1 ≤ k + 3 by omega)
  exact (ss_cons (ss_set 1 sc_law.nd (by rfl) (by first | exact Or.inl rfl | exact Or.inr rfl) (se_lstR sa_nil))
    (ss_cons (ss_set 2 sc_law.nd (by rfl) (by first | exact Or.inl rfl | exact Or.inr rfl) (se_cl T.f__law_case hr tk (by rfl) (sa_cons (se_var 0) (sa_cons (se_var 1) (sa_cons se_int sa_nil)))))
    (ss_cons (ss_set 3 sc_law.nd (by rfl) (by first | exact Or.inl rfl | exact Or.inr rfl) (se_cl T.f__law_text hr tk (by rfl) (sa_cons (se_var 2) sa_nil)))
    (ss_cons (ss_if (st_bool (sw_or (st_cmp (o_ne hu) (se_cl T.f_shown_case hr tk (by rfl) (sa_cons (se_var 2) sa_nil)) (se_var 3) (by rfl)) (sw_one_or (st_cmp (o_ne hu) (se_cl T.f__law_ask hr tk (by rfl) (sa_cons (se_var 3) sa_nil)) (se_var 2) (by rfl))))) (ss_one (ss_ret se_bl)) ss_nil)
    (ss_cons (ss_for hp rfl (si_range (by rfl) B.range_ (sa_cons se_int sa_nil)) (sg_name 4 sc_law.nd (by rfl) (by first | exact Or.inl rfl | exact Or.inr rfl)) (ss_cons (ss_set 5 sc_law.nd (by rfl) (by first | exact Or.inl rfl | exact Or.inr rfl) (se_cl T.f__law_draw hr tk (by rfl) (sa_cons (se_var 0) (sa_cons (se_var 1) (sa_cons (se_callB c_lenS (by rfl) B.len_ bb_len (sa_cons (se_var 3) sa_nil)) sa_nil)))))
    (ss_cons (ss_set 6 sc_law.nd (by rfl) (by first | exact Or.inl rfl | exact Or.inr rfl) (se_cl T.f__law_pick hr tk (by rfl) (sa_cons (se_var 0) (sa_cons (se_var 1) (sa_cons (se_lst (sa_cons se_str (sa_cons se_str (sa_cons se_str (sa_cons se_str (sa_cons se_str (sa_cons se_str (sa_cons se_str (sa_cons se_str (sa_cons se_str (sa_cons se_str (sa_cons se_str (sa_cons se_str (sa_cons se_str (sa_cons se_str sa_nil))))))))))))))) sa_nil)))))
    (ss_cons (ss_set 7 sc_law.nd (by rfl) (by first | exact Or.inl rfl | exact Or.inr rfl) (se_op o_add (se_op o_add (se_sliceT (se_var 3) so_none (so_some (se_var 5))) (se_var 6)) (se_sliceT (se_var 3) (so_some (se_op o_add (se_var 5) (se_cl T.f__law_draw hr tk (by rfl) (sa_cons (se_var 0) (sa_cons (se_var 1) (sa_cons se_int sa_nil)))))) so_none)))
    (ss_cons (ss_set 8 sc_law.nd (by rfl) (by first | exact Or.inl rfl | exact Or.inr rfl) (se_cl T.f__law_parse hr tk (by rfl) (sa_cons (se_var 7) sa_nil)))
    (ss_one (ss_if (st_cmp (o_ne hu) (se_cl T.f__law_ask hr tk (by rfl) (sa_cons (se_var 7) sa_nil)) (se_if (st_cmp o_isnot (se_var 8) se_non (by rfl)) (se_var 8) (se_tup (sa_cons se_str (sa_cons se_int sa_nil)))) (by rfl)) (ss_one (ss_ret se_bl)) ss_nil)))))))
    (ss_cons (ss_set 9 sc_law.nd (by rfl) (by first | exact Or.inl rfl | exact Or.inr rfl) (se_lst (sa_cons se_non (sa_cons se_int (sa_cons se_str (sa_cons se_str (sa_cons se_str (sa_cons se_str (sa_cons se_str (sa_cons (se_op o_add (se_var 3) se_str) (sa_cons (se_op o_add se_str (se_var 3)) sa_nil)))))))))))
    (ss_cons (ss_for hp rfl (si_seq (se_op o_add (se_var 9) (se_lst (sa_cons (se_lst (sa_cons se_str sa_nil)) sa_nil)))) (sg_name 10 sc_law.nd (by rfl) (by first | exact Or.inl rfl | exact Or.inr rfl)) (ss_one (ss_if (st_cmp (o_ne hu) (se_cl T.f__law_ask hr tk (by rfl) (sa_cons (se_var 10) sa_nil)) (se_tup (sa_cons se_str (sa_cons se_int sa_nil))) (by rfl)) (ss_one (ss_ret se_bl)) ss_nil)))
    (ss_cons (ss_set 11 sc_law.nd (by rfl) (by first | exact Or.inl rfl | exact Or.inr rfl) (se_op o_add se_int (se_cl T.f__law_draw hr tk (by rfl) (sa_cons (se_var 0) (sa_cons (se_var 1) (sa_cons se_int sa_nil))))))
    (ss_cons (ss_set 12 sc_law.nd (by rfl) (by first | exact Or.inl rfl | exact Or.inr rfl) (se_tup (sa_cons (se_tup (sa_cons se_int (sa_cons se_int (sa_cons (se_op o_mul (se_tup (sa_cons (se_tup (sa_cons se_int sa_nil)) sa_nil)) (se_var 11)) (sa_cons (se_tup (sa_cons (se_callTy c_tuple (by rfl) B.tuple_ bb_tuple (sa_cons (se_lc (own := [("one", 13)]) rfl sc_law.nd (si_range (by rfl) B.range_ (sa_cons (se_var 11) sa_nil)) (blkOk_by (by kernel_rfl)) (fun _ _ _ _ _ => (sg_name 13 sc_law.nd (by rfl) (by first | exact Or.inl rfl | exact Or.inr rfl))) (fun _ _ _ _ _ => sts_nil) (fun _ _ _ _ _ => (se_tup (sa_cons (se_var 13) sa_nil))) (by decide)) sa_nil)) sa_nil)) sa_nil))))) (sa_cons (se_op o_sub (se_var 11) se_int) sa_nil))))
    (ss_cons (ss_if (st_bool (sw_or (st_cmp (o_ne hu) (se_cl T.f_shown_case hr tk (by rfl) (sa_cons (se_var 12) sa_nil)) (se_cl T.f__law_text hr tk (by rfl) (sa_cons (se_var 12) sa_nil)) (by rfl)) (sw_one_or (st_cmp (o_ne hu) (se_cl T.f__law_ask hr tk (by rfl) (sa_cons (se_cl T.f__law_text hr tk (by rfl) (sa_cons (se_var 12) sa_nil)) sa_nil)) (se_var 12) (by rfl))))) (ss_one (ss_ret se_bl)) ss_nil)
    (ss_cons (ss_if (st_cmp (o_ne hu) (se_cl T.f__law_ask hr tk (by rfl) (sa_cons se_str sa_nil)) (se_tup (sa_cons se_str (sa_cons se_int sa_nil))) (by rfl)) (ss_one (ss_ret se_bl)) ss_nil)
    (ss_one (ss_ret (se_cmp (o_eq hu) (se_cl T.f__law_ask hr tk (by rfl) (sa_cons se_str sa_nil)) (se_tup (sa_cons (se_tup (sa_cons se_int (sa_cons se_int (sa_cons (se_tup (sa_cons (se_tup sa_nil) sa_nil)) (sa_cons (se_tup (sa_cons (se_tup (sa_cons (se_tup (sa_cons se_int sa_nil)) sa_nil)) sa_nil)) sa_nil))))) (sa_cons se_int sa_nil))) (by rfl)))))))))))))))
end
def bodies (F : Nat → FN) : Nat → FN
  | 0 => runF 3 3 (m_is_whole F)
  | 1 => runF 4 2 (m_are_numbers F)
  | 2 => runF 5 3 (m_are_views F)
  | 3 => runF 3 1 (m_is_model F)
  | 4 => runF 1 1 (m_is_case F)
  | 5 => runF 1 1 (m_need_case F)
  | 6 => runF 2 1 (m_number_in F)
  | 7 => runF 2 1 (m_numbers_text F)
  | 8 => runF 2 1 (m_row_text F)
  | 9 => runF 5 1 (m_case_text F)
  | 10 => runF 1 1 (m_shown_case F)
  | 11 => runF 2 1 (m_numbers_in F)
  | 12 => runF 2 1 (m_row_in F)
  | 13 => runF 7 1 (m_read_case F)
  | 14 => runF 4 2 (m__law_cell_at F)
  | 15 => runF 4 3 (m__law_mixed F)
  | 16 => runF 3 3 (m__law_draw F)
  | 17 => runF 3 3 (m__law_pick F)
  | 18 => runF 14 4 (m__law_views F)
  | 19 => runF 9 3 (m__law_case F)
  | 21 => runF 2 1 (m__law_ask F)
  | 22 => runF 2 1 (m__law_some F)
  | 23 => runF 7 1 (m__law_text F)
  | 24 => runF 4 1 (m__law_numbers F)
  | 25 => runF 8 1 (m__law_parse F)
  | 26 => runF 14 1 (m_law F)
  | _ => fun _ _ => .bad
def Fs : Nat → Nat → FN
  | 0 => fun _ _ _ => .bad
  | n + 1 => bodies (Fs n)
abbrev i_is_whole : Nat := 0
theorem e_is_whole (n : Nat) (a0 a1 a2 : Val) (st : Sto) : Fs (n + 1) i_is_whole [a0, a1, a2] st = (m_is_whole (Fs n) [some a0, some a1, some a2] st).fin0 st.length := (show Fs (n + 1) i_is_whole [a0, a1, a2] st = runF 3 3 (m_is_whole (Fs n)) [a0, a1, a2] st from rfl).trans (runF_eq 3 3 _ _ _ rfl)
abbrev i_are_numbers : Nat := 1
theorem e_are_numbers (n : Nat) (a0 a1 : Val) (st : Sto) : Fs (n + 1) i_are_numbers [a0, a1] st = (m_are_numbers (Fs n) [some a0, some a1, none, none] st).fin0 st.length := (show Fs (n + 1) i_are_numbers [a0, a1] st = runF 4 2 (m_are_numbers (Fs n)) [a0, a1] st from rfl).trans (runF_eq 4 2 _ _ _ rfl)
abbrev i_are_views : Nat := 2
theorem e_are_views (n : Nat) (a0 a1 a2 : Val) (st : Sto) : Fs (n + 1) i_are_views [a0, a1, a2] st = (m_are_views (Fs n) [some a0, some a1, some a2, none, none] st).fin0 st.length := (show Fs (n + 1) i_are_views [a0, a1, a2] st = runF 5 3 (m_are_views (Fs n)) [a0, a1, a2] st from rfl).trans (runF_eq 5 3 _ _ _ rfl)
abbrev i_is_model : Nat := 3
theorem e_is_model (n : Nat) (a0 : Val) (st : Sto) : Fs (n + 1) i_is_model [a0] st = (m_is_model (Fs n) [some a0, none, none] st).fin0 st.length := (show Fs (n + 1) i_is_model [a0] st = runF 3 1 (m_is_model (Fs n)) [a0] st from rfl).trans (runF_eq 3 1 _ _ _ rfl)
abbrev i_is_case : Nat := 4
theorem e_is_case (n : Nat) (a0 : Val) (st : Sto) : Fs (n + 1) i_is_case [a0] st = (m_is_case (Fs n) [some a0] st).fin0 st.length := (show Fs (n + 1) i_is_case [a0] st = runF 1 1 (m_is_case (Fs n)) [a0] st from rfl).trans (runF_eq 1 1 _ _ _ rfl)
abbrev i_need_case : Nat := 5
theorem e_need_case (n : Nat) (a0 : Val) (st : Sto) : Fs (n + 1) i_need_case [a0] st = (m_need_case (Fs n) [some a0] st).fin0 st.length := (show Fs (n + 1) i_need_case [a0] st = runF 1 1 (m_need_case (Fs n)) [a0] st from rfl).trans (runF_eq 1 1 _ _ _ rfl)
abbrev i_number_in : Nat := 6
theorem e_number_in (n : Nat) (a0 : Val) (st : Sto) : Fs (n + 1) i_number_in [a0] st = (m_number_in (Fs n) [some a0, none] st).fin0 st.length := (show Fs (n + 1) i_number_in [a0] st = runF 2 1 (m_number_in (Fs n)) [a0] st from rfl).trans (runF_eq 2 1 _ _ _ rfl)
abbrev i_numbers_text : Nat := 7
theorem e_numbers_text (n : Nat) (a0 : Val) (st : Sto) : Fs (n + 1) i_numbers_text [a0] st = (m_numbers_text (Fs n) [some a0, none] st).fin0 st.length := (show Fs (n + 1) i_numbers_text [a0] st = runF 2 1 (m_numbers_text (Fs n)) [a0] st from rfl).trans (runF_eq 2 1 _ _ _ rfl)
abbrev i_row_text : Nat := 8
theorem e_row_text (n : Nat) (a0 : Val) (st : Sto) : Fs (n + 1) i_row_text [a0] st = (m_row_text (Fs n) [some a0, none] st).fin0 st.length := (show Fs (n + 1) i_row_text [a0] st = runF 2 1 (m_row_text (Fs n)) [a0] st from rfl).trans (runF_eq 2 1 _ _ _ rfl)
abbrev i_case_text : Nat := 9
theorem e_case_text (n : Nat) (a0 : Val) (st : Sto) : Fs (n + 1) i_case_text [a0] st = (m_case_text (Fs n) [some a0, none, none, none, none] st).fin0 st.length := (show Fs (n + 1) i_case_text [a0] st = runF 5 1 (m_case_text (Fs n)) [a0] st from rfl).trans (runF_eq 5 1 _ _ _ rfl)
abbrev i_shown_case : Nat := 10
theorem e_shown_case (n : Nat) (a0 : Val) (st : Sto) : Fs (n + 1) i_shown_case [a0] st = (m_shown_case (Fs n) [some a0] st).fin0 st.length := (show Fs (n + 1) i_shown_case [a0] st = runF 1 1 (m_shown_case (Fs n)) [a0] st from rfl).trans (runF_eq 1 1 _ _ _ rfl)
abbrev i_numbers_in : Nat := 11
theorem e_numbers_in (n : Nat) (a0 : Val) (st : Sto) : Fs (n + 1) i_numbers_in [a0] st = (m_numbers_in (Fs n) [some a0, none] st).fin0 st.length := (show Fs (n + 1) i_numbers_in [a0] st = runF 2 1 (m_numbers_in (Fs n)) [a0] st from rfl).trans (runF_eq 2 1 _ _ _ rfl)
abbrev i_row_in : Nat := 12
theorem e_row_in (n : Nat) (a0 : Val) (st : Sto) : Fs (n + 1) i_row_in [a0] st = (m_row_in (Fs n) [some a0, none] st).fin0 st.length := (show Fs (n + 1) i_row_in [a0] st = runF 2 1 (m_row_in (Fs n)) [a0] st from rfl).trans (runF_eq 2 1 _ _ _ rfl)
abbrev i_read_case : Nat := 13
theorem e_read_case (n : Nat) (a0 : Val) (st : Sto) : Fs (n + 1) i_read_case [a0] st = (m_read_case (Fs n) [some a0, none, none, none, none, none, none] st).fin0 st.length := (show Fs (n + 1) i_read_case [a0] st = runF 7 1 (m_read_case (Fs n)) [a0] st from rfl).trans (runF_eq 7 1 _ _ _ rfl)
abbrev i__law_cell_at : Nat := 14
theorem e__law_cell_at (n : Nat) (a0 a1 : Val) (st : Sto) : Fs (n + 1) i__law_cell_at [a0, a1] st = (m__law_cell_at (Fs n) [some a0, some a1, none, none] st).fin0 st.length := (show Fs (n + 1) i__law_cell_at [a0, a1] st = runF 4 2 (m__law_cell_at (Fs n)) [a0, a1] st from rfl).trans (runF_eq 4 2 _ _ _ rfl)
abbrev i__law_mixed : Nat := 15
theorem e__law_mixed (n : Nat) (a0 a1 a2 : Val) (st : Sto) : Fs (n + 1) i__law_mixed [a0, a1, a2] st = (m__law_mixed (Fs n) [some a0, some a1, some a2, none] st).fin0 st.length := (show Fs (n + 1) i__law_mixed [a0, a1, a2] st = runF 4 3 (m__law_mixed (Fs n)) [a0, a1, a2] st from rfl).trans (runF_eq 4 3 _ _ _ rfl)
abbrev i__law_draw : Nat := 16
theorem e__law_draw (n : Nat) (a0 a1 a2 : Val) (st : Sto) : Fs (n + 1) i__law_draw [a0, a1, a2] st = (m__law_draw (Fs n) [some a0, some a1, some a2] st).fin0 st.length := (show Fs (n + 1) i__law_draw [a0, a1, a2] st = runF 3 3 (m__law_draw (Fs n)) [a0, a1, a2] st from rfl).trans (runF_eq 3 3 _ _ _ rfl)
abbrev i__law_pick : Nat := 17
theorem e__law_pick (n : Nat) (a0 a1 a2 : Val) (st : Sto) : Fs (n + 1) i__law_pick [a0, a1, a2] st = (m__law_pick (Fs n) [some a0, some a1, some a2] st).fin0 st.length := (show Fs (n + 1) i__law_pick [a0, a1, a2] st = runF 3 3 (m__law_pick (Fs n)) [a0, a1, a2] st from rfl).trans (runF_eq 3 3 _ _ _ rfl)
abbrev i__law_views : Nat := 18
theorem e__law_views (n : Nat) (a0 a1 a2 a3 : Val) (st : Sto) : Fs (n + 1) i__law_views [a0, a1, a2, a3] st = (m__law_views (Fs n) [some a0, some a1, some a2, some a3, none, none, none, none, none, none, none, none, none, none] st).fin0 st.length := (show Fs (n + 1) i__law_views [a0, a1, a2, a3] st = runF 14 4 (m__law_views (Fs n)) [a0, a1, a2, a3] st from rfl).trans (runF_eq 14 4 _ _ _ rfl)
abbrev i__law_case : Nat := 19
theorem e__law_case (n : Nat) (a0 a1 a2 : Val) (st : Sto) : Fs (n + 1) i__law_case [a0, a1, a2] st = (m__law_case (Fs n) [some a0, some a1, some a2, none, none, none, none, none, none] st).fin0 st.length := (show Fs (n + 1) i__law_case [a0, a1, a2] st = runF 9 3 (m__law_case (Fs n)) [a0, a1, a2] st from rfl).trans (runF_eq 9 3 _ _ _ rfl)
abbrev i__law_ask : Nat := 21
theorem e__law_ask (n : Nat) (a0 : Val) (st : Sto) : Fs (n + 1) i__law_ask [a0] st = (m__law_ask (Fs n) [some a0, none] st).fin0 st.length := (show Fs (n + 1) i__law_ask [a0] st = runF 2 1 (m__law_ask (Fs n)) [a0] st from rfl).trans (runF_eq 2 1 _ _ _ rfl)
abbrev i__law_some : Nat := 22
theorem e__law_some (n : Nat) (a0 : Val) (st : Sto) : Fs (n + 1) i__law_some [a0] st = (m__law_some (Fs n) [some a0, none] st).fin0 st.length := (show Fs (n + 1) i__law_some [a0] st = runF 2 1 (m__law_some (Fs n)) [a0] st from rfl).trans (runF_eq 2 1 _ _ _ rfl)
abbrev i__law_text : Nat := 23
theorem e__law_text (n : Nat) (a0 : Val) (st : Sto) : Fs (n + 1) i__law_text [a0] st = (m__law_text (Fs n) [some a0, none, none, none, none, none, none] st).fin0 st.length := (show Fs (n + 1) i__law_text [a0] st = runF 7 1 (m__law_text (Fs n)) [a0] st from rfl).trans (runF_eq 7 1 _ _ _ rfl)
abbrev i__law_numbers : Nat := 24
theorem e__law_numbers (n : Nat) (a0 : Val) (st : Sto) : Fs (n + 1) i__law_numbers [a0] st = (m__law_numbers (Fs n) [some a0, none, none, none] st).fin0 st.length := (show Fs (n + 1) i__law_numbers [a0] st = runF 4 1 (m__law_numbers (Fs n)) [a0] st from rfl).trans (runF_eq 4 1 _ _ _ rfl)
abbrev i__law_parse : Nat := 25
theorem e__law_parse (n : Nat) (a0 : Val) (st : Sto) : Fs (n + 1) i__law_parse [a0] st = (m__law_parse (Fs n) [some a0, none, none, none, none, none, none, none] st).fin0 st.length := (show Fs (n + 1) i__law_parse [a0] st = runF 8 1 (m__law_parse (Fs n)) [a0] st from rfl).trans (runF_eq 8 1 _ _ _ rfl)
abbrev i_law : Nat := 26
theorem e_law (n : Nat) (a0 : Val) (st : Sto) : Fs (n + 1) i_law [a0] st = (m_law (Fs n) [some a0, none, none, none, none, none, none, none, none, none, none, none, none, none] st).fin0 st.length := (show Fs (n + 1) i_law [a0] st = runF 14 1 (m_law (Fs n)) [a0] st from rfl).trans (runF_eq 14 1 _ _ _ rfl)
section
end
end Lw
end

set_option maxRecDepth 100000
local macro_rules | `(tactic| simp! only [$ls,*] $[$loc]?) => `(tactic| simp only [Mi.kit_NoneType_int, Mi.kit_bool_int, Mi.kit_int_int, Mi.kit_str_int, Mi.kit_list_int, Mi.kit_tuple_int, Mi.kit_dict_int, Mi.kit_NoneType_bool, Mi.kit_bool_bool, Mi.kit_int_bool, Mi.kit_str_bool, Mi.kit_list_bool, Mi.kit_tuple_bool, Mi.kit_dict_bool, Mi.kit_NoneType_tuple, Mi.kit_bool_tuple, Mi.kit_int_tuple, Mi.kit_str_tuple, Mi.kit_list_tuple, Mi.kit_tuple_tuple, Mi.kit_dict_tuple, Mi.kit_NoneType_str, Mi.kit_bool_str, Mi.kit_int_str, Mi.kit_str_str, Mi.kit_list_str, Mi.kit_tuple_str, Mi.kit_dict_str, Mi.kit_NoneType_list, Mi.kit_bool_list, Mi.kit_int_list, Mi.kit_str_list, Mi.kit_list_list, Mi.kit_tuple_list, Mi.kit_dict_list, Mi.andS_nx, Mi.andS_rt, Mi.andS_ex, Mi.andS_bad, Mi.sSeq_eq, Mi.sNx_eq, Mi.sNever_eq, Mi.sRetN_eq, Mi.retS_ok, Mi.retS_exc, Mi.retS_bad, Mi.sRet_eq, Mi.dropS_ok, Mi.dropS_exc, Mi.sExpr_eq, Mi.setS_ok, Mi.setS_exc, Mi.sSet_eq, Mi.ifS_true, Mi.ifS_false, Mi.sIf_eq, Mi.eC_eq, Mi.op2_ok, Mi.op1_ok, Mi.eOp_eq, Mi.tst_ok, Mi.eTst_eq, Mi.aNil_eq, Mi.cons2_ok, Mi.cons1_ok, Mi.aCons_eq, Mi.cb_ok, Mi.eCB_eq, Mi.cl_ok, Mi.eCl_eq, Mi.getv_ok, Mi.eVar_eq, Mi.kand_true, Mi.kand_false, Mi.kAnd_eq, Mi.kor_true, Mi.kor_false, Mi.kOr_eq, Mi.knot_ok, Mi.kNot_eq, Mi.kYes_eq, Mi.ifE_true, Mi.ifE_false, Mi.eIf_eq, Mi.tup_ok, Mi.eTup_eq, Mi.lstD_ok, Mi.eLst_eq, Mi.lstR_ok, Mi.eLstR_eq, Mi.toDs_nil, Mi.toDs_d, Mi.isi_ok, Mi.eIsi_eq, Mi.notE_ok, Mi.eNot_eq, Mi.andE_true, Mi.andE_false, Mi.eAnd_eq, Mi.orE_true, Mi.orE_false, Mi.eOr_eq, Mi.ch3_true, Mi.ch3_false, Mi.ch2_ok, Mi.ch1_ok, Mi.eChain_eq, Mi.parS_ok, Mi.sParN_eq, Mi.listD_ok, Mi.lcE_ok, Mi.eLc_eq, Mi.seqI_list, Mi.seqI_tuple, Mi.iSeq_eq, Mi.rangeI_ok, Mi.iRange_eq, Mi.forS_ok, Mi.sFor_eq, Mi.slS3_ok, Mi.slS2_ok, Mi.slS1_ok, Mi.eSl_eq, Mi.oNone_eq, Mi.oS_ok, Mi.oSome_eq, Mi.setTS_ok, Mi.sSetT_eq, Mi.starS_ok, Mi.sStar_eq, Mi.app2_ok, Mi.app1_ok, Mi.eAppend_eq, Mi.negE_ok, Mi.eNeg_eq, Mi.fin0_nx, Mi.fin0_rt, Mi.noX_ok, Mi.w_fact_after, Mi.w_fact_holds, Mi.w_fact_may, Mi.w_fact_and, Mi.w_fact_or, Mi.w_fact_not, Mi.w_fact_all, Mi.w_fact_common, Mi.w_after_fact, Mi.w_after_holds, Mi.w_after_may, Mi.w_after_and, Mi.w_after_or, Mi.w_after_not, Mi.w_after_all, Mi.w_after_common, Mi.w_holds_fact, Mi.w_holds_after, Mi.w_holds_may, Mi.w_holds_and, Mi.w_holds_or, Mi.w_holds_not, Mi.w_holds_all, Mi.w_holds_common, Mi.w_may_fact, Mi.w_may_after, Mi.w_may_holds, Mi.w_may_and, Mi.w_may_or, Mi.w_may_not, Mi.w_may_all, Mi.w_may_common, Mi.w_and_fact, Mi.w_and_after, Mi.w_and_holds, Mi.w_and_may, Mi.w_and_or, Mi.w_and_not, Mi.w_and_all, Mi.w_and_common, Mi.w_or_fact, Mi.w_or_after, Mi.w_or_holds, Mi.w_or_may, Mi.w_or_and, Mi.w_or_not, Mi.w_or_all, Mi.w_or_common, Mi.w_not_fact, Mi.w_not_after, Mi.w_not_holds, Mi.w_not_may, Mi.w_not_and, Mi.w_not_or, Mi.w_not_all, Mi.w_not_common, Mi.w_all_fact, Mi.w_all_after, Mi.w_all_holds, Mi.w_all_may, Mi.w_all_and, Mi.w_all_or, Mi.w_all_not, Mi.w_all_common, Mi.w_common_fact, Mi.w_common_after, Mi.w_common_holds, Mi.w_common_may, Mi.w_common_and, Mi.w_common_or, Mi.w_common_not, Mi.w_common_all, Mi.eqv_int, Mi.eqv_str, Mi.eqv_tn, Mi.eqv_t0, Mi.fits_int, Mi.fits_str, Mi.plain_int, Mi.plain_str, Mi.plain_tup, Mi.plain_lst, Mi.plainAll_nil, Mi.plainAll_cons, Mi.depth_int, Mi.depth_str, Mi.depth_non, Mi.depth_bool, Mi.plain_non, Mi.plain_bool, Mi.depth_tup0, Mi.zipI_tup, Mi.zipI_lst, Mi.iZip_eq, Mi.lc2D_ok, Mi.lc2E_ok, Mi.eLc2_eq, Mi.cut_1, Mi.eDNewK_eq, Mi.eDNewN_eq, Mi.dput3_ok, Mi.dput2_ok, Mi.dput1_ok, Mi.sDPut_eq, Mi.srt_ok, Mi.sc2E_ok, Mi.eSortSc2_eq, Mi.dcd_ok, Mi.dcr_ok, Mi.dcFE_ok, Mi.dcRE_ok, Mi.eDcF_eq, Mi.eDcR_eq, Mi.popE_ok, Mi.ePop_eq, Mi.ext2_ok, Mi.ext1_ok, Mi.eExtend_eq, Mi.lrg_ok, Mi.eListRg_eq, Mi.iKeys_eq, Mi.frzE_ok, Mi.eFrz_eq, Mi.eSortSet_eq, Mi.range2I_ok, Mi.iRange2_eq, Mi.iEnumA_eq, Mi.lput3_ok, Mi.lput2_ok, Mi.lput1_ok, Mi.sLPut_eq, Mi.augS_ok, Mi.augG_ok, Mi.sAug_eq, Mi.idx1_list, Mi.eIndex_eq, Mi.frzG_r, Mi.sFrz_eq, Mi.dcdN_ok, Mi.dcrN_ok, Mi.dcNFE_ok, Mi.dcNRE_ok, Mi.eDcNF_eq, Mi.eDcNR_eq, Mi.rai_ok, Mi.sRaise1_eq, Mi.sRaise0_eq, Mi.tryS_rt, Mi.tryS_nx, Mi.sTry_eq, Mi.eCallV_eq, Mi.cv_ok, Mi.aLam_eq, Mi.al_ok, Mi.eLam_eq, Mi.lm_ok', Mi.sLock_eq, Mi.ePopN_eq, Mi.iKeysL_eq, Mi.eSortSc1_eq, Mi.srt1_ok, Mi.sSetL_eq, Mi.setLS_ok, Mi.eLcR_eq, Mi.lcRE_ok, Mi.eNever_eq, Mi.ePopI_eq, Mi.eListRgR_eq, Mi.lrgR_ok, Mi.eLend_eq, Mi.finI_nx, Mi.finI_rt, Mi.eFld_eq, Mi.sFld2_eq, Mi.fldS1_ok, Mi.fldS2_ok, Mi.eMeth_eq, Mi.meth2_ok, Mi.eRev_eq, Mi.revE_ok, List.getElem?_cons_zero, List.getElem?_cons_succ, List.set_cons_zero, List.set_cons_succ, List.length_cons, List.length_nil, if_true, if_false, reduceIte, Bool.not_true, Bool.not_false, decide_true, decide_false, Bool.true_and, Bool.false_and, Bool.and_true, Bool.and_false, Mi.R.of_some, Option.map_some, Option.map_none, Mi.wipeE, Mi.pur2, Mi.dI, Mi.iSub, Mi.iLt, Mi.iLe, Mi.iGt, Mi.iGe, Mi.setAll, Mi.Tg.put, Mi.toD, Nat.reduceAdd, reduceCtorEq, Bool.false_eq_true, $ls,*] $[$loc]?)

section
set_option maxRecDepth 100000
set_option maxHeartbeats 0
namespace Lw
open PySem PySem.Spec PyProof.Rows L2 Mi
def fn : List He.DefD := [
  ⟨("is_whole", none), "is_whole", "is_whole", defArgs (top 21), defBody (top 21), defScope (top 21), [], []⟩,
  ⟨("are_numbers", none), "are_numbers", "are_numbers", defArgs (top 22), defBody (top 22), defScope (top 22), [], []⟩,
  ⟨("are_views", none), "are_views", "are_views", defArgs (top 23), defBody (top 23), defScope (top 23), [], []⟩,
  ⟨("is_model", none), "is_model", "is_model", defArgs (top 24), defBody (top 24), defScope (top 24), [], []⟩,
  ⟨("is_case", none), "is_case", "is_case", defArgs (top 25), defBody (top 25), defScope (top 25), [], []⟩,
  ⟨("need_case", none), "need_case", "need_case", defArgs (top 26), defBody (top 26), defScope (top 26), [], []⟩,
  ⟨("number_in", none), "number_in", "number_in", defArgs (top 29), defBody (top 29), defScope (top 29), [], []⟩,
  ⟨("numbers_text", none), "numbers_text", "numbers_text", defArgs (top 30), defBody (top 30), defScope (top 30), [], []⟩,
  ⟨("row_text", none), "row_text", "row_text", defArgs (top 31), defBody (top 31), defScope (top 31), [], []⟩,
  ⟨("case_text", none), "case_text", "case_text", defArgs (top 32), defBody (top 32), defScope (top 32), [], []⟩,
  ⟨("shown_case", none), "shown_case", "shown_case", defArgs (top 33), defBody (top 33), defScope (top 33), [], []⟩,
  ⟨("numbers_in", none), "numbers_in", "numbers_in", defArgs (top 34), defBody (top 34), defScope (top 34), [], []⟩,
  ⟨("row_in", none), "row_in", "row_in", defArgs (top 35), defBody (top 35), defScope (top 35), [], []⟩,
  ⟨("read_case", none), "read_case", "read_case", defArgs (top 36), defBody (top 36), defScope (top 36), [], []⟩,
  ⟨("_law_cell_at", none), "_law_cell_at", "_law_cell_at", defArgs (top 38), defBody (top 38), defScope (top 38), [], []⟩,
  ⟨("_law_mixed", none), "_law_mixed", "_law_mixed", defArgs (top 39), defBody (top 39), defScope (top 39), [], []⟩,
  ⟨("_law_draw", none), "_law_draw", "_law_draw", defArgs (top 40), defBody (top 40), defScope (top 40), [], []⟩,
  ⟨("_law_pick", none), "_law_pick", "_law_pick", defArgs (top 41), defBody (top 41), defScope (top 41), [], []⟩,
  ⟨("_law_views", none), "_law_views", "_law_views", defArgs (top 42), defBody (top 42), defScope (top 42), [], []⟩,
  ⟨("_law_case", none), "_law_case", "_law_case", defArgs (top 43), defBody (top 43), defScope (top 43), [], []⟩,
  ⟨("_law_which", none), "_law_which", "_law_which", defArgs (top 44), defBody (top 44), defScope (top 44), [], []⟩,
  ⟨("_law_ask", none), "_law_ask", "_law_ask", defArgs (top 45), defBody (top 45), defScope (top 45), [], []⟩,
  ⟨("_law_some", none), "_law_some", "_law_some", defArgs (top 46), defBody (top 46), defScope (top 46), [], []⟩,
  ⟨("_law_text", none), "_law_text", "_law_text", defArgs (top 47), defBody (top 47), defScope (top 47), [], []⟩,
  ⟨("_law_numbers", none), "_law_numbers", "_law_numbers", defArgs (top 48), defBody (top 48), defScope (top 48), [], []⟩,
  ⟨("_law_parse", none), "_law_parse", "_law_parse", defArgs (top 49), defBody (top 49), defScope (top 49), [], []⟩,
  ⟨("law", none), "law", "law", defArgs (top 50), defBody (top 50), defScope (top 50), [], []⟩,
  ⟨("NoSaying", some "__init__"), "__init__", "NoSaying.__init__", defArgs (cdef (top 5)), defBody (cdef (top 5)), defScope (cdef (top 5)), [], []⟩,
  ⟨("CantBe", some "__init__"), "__init__", "CantBe.__init__", defArgs (cdef (top 15)), defBody (cdef (top 15)), defScope (cdef (top 15)), [], []⟩]
def glos : List Str := (["is_whole", "are_numbers", "are_views", "is_model", "is_case", "need_case", "number_in", "numbers_text", "row_text", "case_text", "shown_case", "numbers_in", "row_in", "read_case", "_law_cell_at", "_law_mixed", "_law_draw", "_law_pick", "_law_views", "_law_case", "_law_which", "_law_ask", "_law_some", "_law_text", "_law_numbers"] : List Str) ++ (["_law_parse", "law"] : List Str)
def chC (K : PySem.W.Frag) : Bool := gcB K "WORLDS" (.int 200) && gcB K "FIGURES" (.str "0123456789")
def chT (K : PySem.W.Frag) : Bool := decide (clA K 99 = 0)
def chX (K : PySem.W.Frag) : Bool := xtB K (List.range 18) && (iniB K 4 && iniB K 14)
def chk (K : PySem.W.Frag) : Bool := ((blB K && glos.all fun x => globB K x) && chC K) && (chX K && chT K)
abbrev RwT : PySem.W.OpenRow := PySem.W.OpenLaw.row PySem.Challenge.rw_mindsteps_k31_whole_case_texts
abbrev hk : PySem.W.Hook := Mi.hookM 4 fn chk
def ob (s : PySem.W.SharedT) : Mi.AlM := Mi.obsMG 4 fn chk (HandSHeadRun.getT s)
theorem ob_eq (s : PySem.W.SharedT) : ob s = hk.obs s.abs := Mi.obsMG_eq (HandSHeadRun.getT_eq s)
def loose : List Str := (["__name__", "MindError", "NoModel", "NoWorld", "NoMind", "NoSaying", "NoDeed", "NoEvent", "NoFact", "NoMinds", "NoLot", "NoCount", "NoText", "Unlike", "Common", "CantBe", "TooMany", "TooLong", "Nothing", "WORLDS", "is_whole", "are_numbers", "are_views", "is_model", "is_case"] : List Str) ++ (["need_case", "FIGURES", "number_in", "numbers_text", "row_text", "case_text", "shown_case", "numbers_in", "row_in", "read_case", "_law_cell_at", "_law_mixed", "_law_draw", "_law_pick", "_law_views", "_law_case", "_law_which", "_law_ask", "_law_some", "_law_text", "_law_numbers", "_law_parse"] : List Str)
theorem run (w : World) : HandSHeadRun.RunEq RwT (PySem.W.view RwT.prog [50]) hk ob 6000 loose w := by
  intro os
  kernel_rfl
end Lw
end

section
set_option maxRecDepth 100000
set_option maxHeartbeats 4000000
namespace Lw
open PySem PySem.Spec L2 Mi
/-! ### numbers drawn -/
def isWhole (x : D) (lo hi : Int) : Bool := match x with
  | .int i => decide (lo ≤ i) && decide (i ≤ hi)
  | _ => false
def noDict : D → Prop
  | .dict _ => False
  | _ => True
theorem c_is_whole (n : Nat) (x : D) (lo hi : Int) (st : Sto) (h : Okk st) (hd : noDict x) : Fs (n + 1) i_is_whole [.d x, .d (.int lo), .d (.int hi)] st = .ok (.d (.bool (isWhole x lo hi))) st := by
  rw [e_is_whole]
  cases x with
  | int i => cases h1 : decide (lo ≤ i) <;> simp [m_is_whole, tyOf, pur2, dI, iLe, isWhole, h, h1]
  | dict _ => exact hd.elim
  | _ => simp [m_is_whole, tyOf, isWhole, h]
theorem atI_get (ns : List Int) (k : Nat) (h : k < ns.length) : atI ns (k : Int) = some (ns.getD k 0) := by
  rw [atI_nat (v := ns.getD k 0)]
  simp [List.getD, h]
theorem forL_div (xs : List D) (a b : Option Val) (st : Sto) : ∀ (r : Int) (c : Option Val), ∃ c', forL (.nm 3) (sSet 2 (eOp (pur2 (dI iDiv)) (eVar 2) (eC (.int 1000003)))) xs [a, b, some (.d (.int r)), c] st = .ok (.nx [a, b, some (.d (.int (xs.foldl (fun r _ => r / 1000003) r))), c']) st := by
  induction xs with
  | nil => intro r c; exact ⟨c, rfl⟩
  | cons x xs ih =>
    intro r c
    obtain ⟨c', h⟩ := ih (r / 1000003) (some (.d x))
    refine ⟨c', ?_⟩
    simp [forL, Tg.put, pur2, dI, iDiv]
    exact h
theorem c_cell (n : Nat) (ns : List Int) (k : Nat) (st : Sto) (h : Okk st) (hn : ns.length ≤ 63) : ∃ v, Fs (n + 1) i__law_cell_at [.s ns, .d (.int (k : Nat))] st = .ok (.d (.int v)) st := by
  rw [e__law_cell_at]
  by_cases h1 : k < ns.length
  · have : ((k : Nat) : Int) < (ns.length : Int) := by omega
    refine ⟨ns.getD k 0, ?_⟩
    simp [m__law_cell_at, pur2, dI, iLt, bLen, lenOf, this, vIx, atI_get ns k h1, h]
  · have g1 : ¬ ((k : Nat) : Int) < (ns.length : Int) := by omega
    by_cases h2 : ns = []
    · subst h2
      have g2 : ¬ ((k : Nat) : Int) < 0 := by omega
      refine ⟨0, ?_⟩
      simp [m__law_cell_at, pur2, dI, iLt, bLen, lenOf, g2, vEq, datOf, fits, small, PyData.plain, PyData.plainAll, PyData.eqv, PyData.eqvAll, PyData.depth, PyData.depthAll, h]
    · have hl : 0 < ns.length := List.length_pos_iff.mpr h2
      have q1 : PyData.eqv (.list (ns.map PyData.int)) (.list []) = false := by
        cases ns with
        | nil => exact absurd rfl h2
        | cons a r => rfl
      have q2 : fits (.list (ns.map PyData.int)) (.list []) = true := by
        have : ∀ l : List Int, PyData.plainAll (l.map PyData.int) = true := fun l => by induction l with
          | nil => rfl
          | cons a r ih => simp [PyData.plainAll, PyData.plain, ih]
        simp [fits, PyData.plain, PyData.plainAll, this, PyData.depth, PyData.depthAll]
      have q3 : ((k : Int) % (ns.length : Int)) = ((k % ns.length : Nat) : Int) := by simp
      have q4 : k % ns.length < ns.length := Nat.mod_lt _ hl
      have q5 : (0 : Int) < (ns.length : Int) ∧ (ns.length : Int) < 1073741824 := by omega
      have q6 : (0 : Int) < (ns.length : Int) := by omega
      have q7 := atI_get ns (k % ns.length) q4
      obtain ⟨c', hc⟩ := forL_div ((List.range (min (k / ns.length) 60)).map fun j => PyData.int (0 + (j : Nat))) (some (.s ns)) (some (.d (.int k))) st (ns.getD (k % ns.length) 0) none
      have e1 : ((k : Int) / (ns.length : Int)) = ((k / ns.length : Nat) : Int) := by simp
      have e2 : (if (60 : Int) < ((k / ns.length : Nat) : Int) then (60 : Int) else ((k / ns.length : Nat) : Int)) = ((min (k / ns.length) 60 : Nat) : Int) := by split <;> omega
      have e3 : -(2 ^ 62) ≤ ((min (k / ns.length) 60 : Nat) : Int) ∧ ((min (k / ns.length) 60 : Nat) : Int) ≤ 1000000 := by
        have h60 : min (k / ns.length) 60 ≤ 60 := Nat.min_le_right _ _
        generalize min (k / ns.length) 60 = tt at *
        omega
      generalize ns.getD (k % ns.length) 0 = c0 at *
      generalize hr : ((List.range (min (k / ns.length) 60)).map fun j => PyData.int (0 + (j : Nat))).foldl (fun r _ => r / 1000003) c0 = r0 at hc
      refine ⟨c0 * 31 + k + r0 * 101, ?_⟩
      have z1 : (R.ok [.d (.int ((min (k / ns.length) 60 : Nat) : Int))] st).rangeI = .ok ((List.range (min (k / ns.length) 60)).map fun j => PyData.int (0 + (j : Nat))) st := by
        rw [rangeI_ok, if_pos e3, Int.toNat_natCast]
      have m1 : ∀ x : Int, iMul x 31 = some (.int (x * 31)) := fun x => if_pos (.inr (by decide))
      have m2 : ∀ x : Int, iMul x 101 = some (.int (x * 101)) := fun x => if_pos (.inr (by decide))
      simp only [m__law_cell_at, sSeq_eq, sIf_eq, eTst_eq, eOp_eq, eVar_eq, List.getElem?_cons_succ, List.getElem?_cons_zero, getv_ok, op1_ok, eCB_eq, aCons_eq, aNil_eq, cons1_ok, cons2_ok, cb_ok, bLen, lenOf, Option.map_some, R.of_some, op2_ok, pur2, dI, iLt, g1, decide_false, tst_ok, ifS_false, sNx_eq, andS_nx,
        vEq, datOf, eLst_eq, lstD_ok, toDs_nil, small, List.length_nil, Nat.zero_le, decide_true, if_true, q1, q2, sSet_eq, iMod, q6, vIx, q3, q7, setS_ok, List.set_cons_succ, List.set_cons_zero, sFor_eq, iRange_eq, iDiv, q5, and_self, eC_eq, bMin, e1, e2, z1, forS_ok, hc, sRet_eq, vMul, m1, m2, vAdd, retS_ok, fin0_rt, fin_d st h]
theorem c_mixed (n : Nat) (ns : List Int) (k : Nat) (b : Int) (st : Sto) (h : Okk st) (hn : ns.length ≤ 63) (hb : 0 < b) : ∃ v : Int, 0 ≤ v ∧ v < b ∧ Fs (n + 2) i__law_mixed [.s ns, .d (.int (k : Nat)), .d (.int b)] st = .ok (.d (.int v)) st := by
  rw [e__law_mixed]
  obtain ⟨c, hc⟩ := c_cell n ns k st h hn
  have m1 : ∀ x : Int, iMul x 1103515245 = some (.int (x * 1103515245)) := fun x => if_pos (.inr (by decide))
  have m2 : ∀ x : Int, iMul 7919 x = some (.int (7919 * x)) := fun x => if_pos (.inl (by decide))
  have p1 : ∀ x : Int, iPow (x % 2147483647) 5 = some (.int ((x % 2147483647) ^ 5)) := fun x => by
    have h1 : 0 ≤ x % 2147483647 := Int.emod_nonneg _ (by decide)
    have h2 : x % 2147483647 < 2147483647 := Int.emod_lt_of_pos _ (by decide)
    unfold iPow
    rw [if_pos ⟨by decide, by decide, by omega⟩]; rfl
  refine ⟨(((c * 1103515245 + 7919 * k + 12345) % 2147483647) ^ 5 % 2147483647 % 999983) % b, Int.emod_nonneg _ (by omega), Int.emod_lt_of_pos _ hb, ?_⟩
  simp [m__law_mixed, hc, vMul, m1, m2, vAdd, pur2, dI, iMod, p1, hb, h]
theorem c_draw (n : Nat) (ns : List Int) (b : Int) (xs : List D) (rest : Sto) (h : Okk (.lst xs :: rest)) (hn : ns.length ≤ 63) (hb : 0 < b) (hx : xs.length < 1000000) : ∃ v : Int, 0 ≤ v ∧ v < b ∧
    Fs (n + 3) i__law_draw [.s ns, .r 0, .d (.int b)] (.lst xs :: rest) = .ok (.d (.int v)) (.lst (xs ++ [.int 0]) :: rest) := by
  rw [e__law_draw]
  have h' : Okk (.lst (xs ++ [.int 0]) :: rest) := h
  obtain ⟨v, h1, h2, hv⟩ := c_mixed n ns (xs.length + 1) b (.lst (xs ++ [.int 0]) :: rest) h' hn hb
  refine ⟨v, h1, h2, ?_⟩
  have hv2 : Fs (n + 2) i__law_mixed [.s ns, .d (.int ((xs.length : Int) + 1)), .d (.int b)] (.lst (xs ++ [.int 0]) :: rest) = .ok (.d (.int v)) (.lst (xs ++ [.int 0]) :: rest) := by
    have := hv
    push_cast at this
    exact this
  have e := fin_d (.lst (xs ++ [.int 0]) :: rest) h' (.int v)
  simp [m__law_draw, hx, bLen, lenOf, sqOf, lsOf, hv2]
  simpa using e
end Lw
end

section
set_option maxRecDepth 100000
set_option maxHeartbeats 4000000
namespace Lw
open PySem PySem.Spec L2 Mi
/-! ### sayings without deeds -/
inductive Pl where
  | fact (i : Nat)
  | no (p : Pl)
  | holds (m : Nat) (p : Pl)
  | may (m : Nat) (p : Pl)
  | all (p : Pl)
  | com (p : Pl)
  | an (p q : Pl)
  | or (p q : Pl)
def Pl.d : Pl → D
  | .fact i => .tuple [.str "fact", .int i]
  | .no p => .tuple [.str "not", p.d]
  | .holds m p => .tuple [.str "holds", .int m, p.d]
  | .may m p => .tuple [.str "may", .int m, p.d]
  | .all p => .tuple [.str "all", p.d]
  | .com p => .tuple [.str "common", p.d]
  | .an p q => .tuple [.str "and", p.d, q.d]
  | .or p q => .tuple [.str "or", p.d, q.d]
def Pl.ok (minds facts : Nat) : Pl → Prop
  | .fact i => i < facts
  | .no p => p.ok minds facts
  | .holds m p => m < minds ∧ p.ok minds facts
  | .may m p => m < minds ∧ p.ok minds facts
  | .all p => p.ok minds facts
  | .com p => p.ok minds facts
  | .an p q => p.ok minds facts ∧ q.ok minds facts
  | .or p q => p.ok minds facts ∧ q.ok minds facts
end Lw
end

section
set_option maxRecDepth 100000
set_option maxHeartbeats 4000000
namespace Lw
open PySem PySem.Spec L2 Mi
end Lw
end

section
set_option maxRecDepth 100000
set_option maxHeartbeats 4000000
namespace Lw
open PySem PySem.Spec L2 Mi
def inR (many i : Int) : Bool := isWhole (.int i) 0 (many - 1)
def lt2 (p : Int × Int) : Bool := decide (p.1 < p.2)
def numsOk (many : Int) (xs : List Int) : Bool := xs.all (inR many) && (xs.zip (xs.drop 1)).all lt2
def numsD (xs : List Int) : D := .tuple (xs.map .int)
theorem c_are_numbers (n : Nat) (xs : List Int) (many : Int) (st : Sto) (h : Okk st) (hl : xs.length ≤ 1000000) : Fs (n + 2) i_are_numbers [.d (numsD xs), .d (.int many)] st = .ok (.d (.bool (numsOk many xs))) st := by
  rw [e_are_numbers]
  have h1 := compL_mp (st := st) (tg := .nm 2) (tt := kYes) (ee := eCl 3 (Fs (n + 1) i_is_whole) (aCons (eVar 2) (aCons (eC (.int 0)) (aCons (eOp (pur2 (dI iSub)) (eVar 1) (eC (.int 1))) aNil)))) (env := [some (.d (numsD xs)), some (.d (.int many)), none, none]) PyData.int (fun i => .bool (inR many i)) xs (by
      intro i _
      have := c_is_whole n (.int i) 0 (many - 1) st h trivial
      refine ⟨_, rfl, rfl, ?_⟩
      simp [pur2, dI, iSub, this, inR])
  have h2 := compL_mp (st := st) (tg := .tp [2, 3]) (tt := kYes) (ee := eOp (pur2 (dI iLt)) (eVar 2) (eVar 3)) (env := [some (.d (numsD xs)), some (.d (.int many)), none, none]) (fun p => PyData.tuple [.int p.1, .int p.2]) (fun p => .bool (lt2 p)) (xs.zip (xs.drop 1)) (by
      intro p _
      refine ⟨_, rfl, rfl, ?_⟩
      simp [setAll, pur2, dI, iLt, lt2])
  have z2 := zipD_mp PyData.int PyData.int xs (xs.drop 1)
  rw [List.map_drop] at z2
  have a1 := bAll_mp (inR many) xs st
  have a2 := bAll_mp lt2 (xs.zip (xs.drop 1)) st
  have hs : small (xs.map PyData.int).length = true := small_le _ (by rw [List.length_map]; exact hl)
  have hs2 : small ((xs.zip (xs.drop 1)).map fun p => PyData.tuple [.int p.1, .int p.2]).length = true := small_le _ (by simp; omega)
  simp only [numsD] at h1 h2 ⊢
  unfold numsOk
  generalize xs.drop 1 = xs' at *
  generalize (xs.zip xs').map (fun p => PyData.tuple [.int p.1, .int p.2]) = zs at *
  generalize (xs.zip xs').map (fun p => PyData.bool (lt2 p)) = zs' at *
  generalize xs.map PyData.int = ys at *
  generalize xs.map (fun p => PyData.bool (inR many p)) = ys' at *
  generalize xs.all (inR many) = c1 at *
  generalize (xs.zip xs').all lt2 = c2 at *
  cases c1 <;> simp only [m_are_numbers, sSeq_eq, sIf_eq, kOr_eq, kNot_eq, eTst_eq, eIsi_eq, eVar_eq, List.getElem?_cons_zero, List.getElem?_cons_succ, getv_ok, isi_ok, tyOf, kit_tuple_tuple, tst_ok, knot_ok, Bool.not_true, kor_false, eCB_eq, aCons_eq, eLc_eq, iSeq_eq, seqI_tuple, lcE_ok, wipeE, List.set_cons_succ, List.set_cons_zero, h1, listD_ok, aNil_eq, cons1_ok, cons2_ok, cb_ok, a1, a2, R.of_some, ifS_true, ifS_false, Bool.not_false, sRet_eq, eC_eq, retS_ok, andS_rt, fin0_rt, fin_d st h, hs, hs2, if_true, sNx_eq, andS_nx, iZip_eq, eSl_eq, oSome_eq, slS1_ok, oS_ok, slS2_ok, oNone_eq, slS3_ok, vSl, cut_1, zipI_tup, z2, h2, Bool.true_and, Bool.false_and]
end Lw
end

section
set_option maxRecDepth 100000
set_option maxHeartbeats 4000000
namespace Lw
open PySem PySem.Spec L2 Mi
def viewsD (vs : List (List (List Int))) : D := .tuple (vs.map fun own => .tuple (own.map numsD))
theorem plainAll_mp {α : Type} (f : α → D) (xs : List α) (h : ∀ x ∈ xs, (f x).plain = true) : PyData.plainAll (xs.map f) = true := by
  induction xs with
  | nil => rfl
  | cons a l ih => rw [List.map_cons, plainAll_cons, h a List.mem_cons_self, ih fun x hx => h x (List.mem_cons_of_mem _ hx)]; rfl
theorem c_are_views (n : Nat) (vs : List (List (List Int))) (minds many : Nat) (st : Sto) (h : Okk st) (h0 : minds ≤ 1000) (h01 : many ≤ 1000) (h1 : vs.length = minds) (h2 : ∀ own ∈ vs, own.length = many) (h3 : ∀ own ∈ vs, ∀ xs ∈ own, numsOk many xs = true) (h4 : ∀ own ∈ vs, ∀ xs ∈ own, xs.length ≤ 1000000) : Fs (n + 3) i_are_views [.d (viewsD vs), .d (.int minds), .d (.int many)] st = .ok (.d (.bool true)) st := by
  rw [e_are_views]
  have g1 := compL_mp (st := st) (tg := .nm 3) (tt := kYes) (ee := eAnd (eIsi "tuple" (eVar 3)) (eOp vEq (eCB bLen (aCons (eVar 3) aNil)) (eVar 2))) (env := [some (.d (viewsD vs)), some (.d (.int minds)), some (.d (.int many)), none, none]) (fun own => .tuple (own.map numsD)) (fun own => .bool true) vs (by
      intro own ho
      have := h2 own ho
      refine ⟨_, rfl, rfl, ?_⟩
      simp [vEq, datOf, tyOf, bLen, lenOf, sqOf, this])
  have a1 : bAll [.d (.list (vs.map fun own => .bool true))] st = _ := bAll_mp (fun own : List (List Int) => true) vs st
  have a2 : bAll [.d (.list (vs.flatMap fun own => own.map fun xs => .bool true))] st = some (.d (.bool true), st) := by
    have : (vs.flatMap fun own => own.map fun xs => PyData.bool true) = (vs.flatten.map fun xs => PyData.bool true) := by simp [List.flatMap, List.map_flatten]
    rw [this, bAll_mp (fun xs : List Int => true) vs.flatten st]; simp
  have g2 := compL2_mp (st := st) (tg := .nm 3) (tt := kYes) (tg1 := .nm 4) (ei1 := iSeq (eVar 3)) (tt1 := kYes) (vs1 := [4]) (ee := eCl 2 (Fs (n + 2) 1) (aCons (eVar 4) (aCons (eVar 2) aNil))) (env := [some (.d (viewsD vs)), some (.d (.int minds)), some (.d (.int many)), none, none]) (fun own => .tuple (own.map numsD)) (fun own => own.map fun xs => .bool true) vs (by
      intro own ho
      refine ⟨_, own.map numsD, rfl, rfl, rfl, ?_⟩
      refine compL_mp numsD (fun xs => .bool true) own fun xs hx => ⟨_, rfl, rfl, ?_⟩
      have := c_are_numbers n xs many st h (h4 own ho xs hx)
      rw [h3 own ho xs hx] at this
      simp [wipeE, this])
  have s1 : small (vs.flatMap fun own => own.map fun xs => (PyData.bool true)).length = true := small_le _ (by
    have : ∀ l : List (List (List Int)), (∀ own ∈ l, own.length = many) → (l.flatMap fun own => own.map fun xs => (PyData.bool true)).length = l.length * many := by
      intro l hl
      induction l with
      | nil => simp
      | cons a l ih =>
        rw [List.flatMap_cons, List.length_append, ih fun own ho => hl own (List.mem_cons_of_mem _ ho), List.length_map, hl a List.mem_cons_self, List.length_cons, Nat.add_mul, Nat.one_mul, Nat.add_comm]
    rw [this vs h2, h1]
    calc minds * many ≤ 1000 * 1000 := Nat.mul_le_mul h0 h01
      _ = 1000000 := rfl)
  have s2 : small (vs.map fun own => PyData.tuple (own.map numsD)).length = true := small_le _ (by rw [List.length_map]; omega)
  simp only [viewsD] at *
  have e1 : vEq (.d (.int ((vs.map fun own => PyData.tuple (own.map numsD)).length : Nat))) (.d (.int minds)) st = some (.d (.bool true), st) := by
    simp [vEq, datOf, h1]
  have e2 : vNe (.d (.int ((vs.map fun own => PyData.tuple (own.map numsD)).length : Nat))) (.d (.int minds)) st = some (.d (.bool false), st) := by
    simp [vNe, datOf, h1]
  have t1 : (vs.all fun _ => true) = true := by simp
  rw [t1] at a1
  simp! only [ssE_ok, vAdd, tyOf, vIx, sqOf, lsOf, bLen, lenOf, datOf, vSl, m_are_views, e2, s2, g1, a1, g2, s1, a2, fin_d st h]
end Lw
end

section
set_option maxRecDepth 100000
set_option maxHeartbeats 4000000
namespace Lw
open PySem PySem.Spec L2 Mi
/-! ### models -/
structure Mo where
  minds : Nat
  facts : Nat
  wor : List (List Int)
  vie : List (List (List Int))
def Mo.n (M : Mo) : Nat := M.wor.length
def Mo.d (M : Mo) : D := .tuple [.int M.minds, .int M.facts, .tuple (M.wor.map numsD), viewsD M.vie]
structure Mo.Ok (M : Mo) : Prop where
  m1 : 1 ≤ M.minds
  m3 : M.minds ≤ 3
  f1 : 1 ≤ M.facts
  f4 : M.facts ≤ 4
  n1 : 1 ≤ M.n
  n60 : M.n ≤ 120
  wo : ∀ x ∈ M.wor, numsOk M.facts x = true
  vl : M.vie.length = M.minds
  ol : ∀ own ∈ M.vie, own.length = M.n
  vo : ∀ own ∈ M.vie, ∀ xs ∈ own, numsOk M.n xs = true
theorem pw_lt2 : ∀ xs : List Int, (xs.zip (xs.drop 1)).all lt2 = true → xs.Pairwise (· < ·)
  | [], _ => .nil
  | [a], _ => by simp
  | a :: b :: r, h => by
    have h1 : a < b := by
      simp only [List.drop_succ_cons, List.drop_zero, List.zip_cons_cons, List.all_cons, Bool.and_eq_true] at h
      exact of_decide_eq_true h.1
    have ih := pw_lt2 (b :: r) (by
      simp only [List.drop_succ_cons, List.drop_zero, List.zip_cons_cons, List.all_cons, Bool.and_eq_true] at h ⊢
      cases r with
      | nil => rfl
      | cons c r => simpa using h.2)
    refine List.pairwise_cons.mpr ⟨fun z hz => ?_, ih⟩
    rcases List.mem_cons.mp hz with e | e
    · omega
    · have := (List.pairwise_cons.mp ih).1 z e; omega
theorem nums_is {many : Int} {xs : List Int} (h : numsOk many xs = true) : (∀ x ∈ xs, 0 ≤ x ∧ x < many) ∧ xs.Pairwise (· < ·) := by
  unfold numsOk at h
  rw [Bool.and_eq_true] at h
  refine ⟨fun x hx => ?_, pw_lt2 xs h.2⟩
  have := List.all_eq_true.mp h.1 x hx
  simp only [inR, isWhole, Bool.and_eq_true, decide_eq_true_eq] at this
  omega
theorem rising_len : ∀ (l : List Int) (lo hi : Int), l.Pairwise (· < ·) → (∀ x ∈ l, lo ≤ x ∧ x < hi) → (l.length : Int) ≤ max (hi - lo) 0
  | [], lo, hi, _, _ => by simp; omega
  | a :: l, lo, hi, h, hb => by
    have h2 := List.pairwise_cons.mp h
    have ha := hb a List.mem_cons_self
    have ih := rising_len l (a + 1) hi h2.2 fun x hx => ⟨by have := h2.1 x hx; omega, (hb x (List.mem_cons_of_mem _ hx)).2⟩
    rw [List.length_cons]; push_cast; omega
theorem nums_len {many : Nat} {xs : List Int} (h : numsOk many xs = true) : xs.length ≤ many := by
  have := rising_len xs 0 many (nums_is h).2 (nums_is h).1
  omega
def Mo.view (M : Mo) (m w : Nat) : List Int := (M.vie.getD m []).getD w []
def Mo.near (M : Mo) (w : Nat) : List Int := (M.vie.map fun own => own.getD w []).flatten
def Mo.steps (M : Mo) (w : Nat) : List Int := sortS (M.near w)
theorem Mo.Ok.own {M : Mo} (h : M.Ok) {own : List (List Int)} (ho : own ∈ M.vie) {w : Nat} (hw : w < M.n) : own.getD w [] ∈ own := by
  have hl := h.ol own ho
  rw [List.getD_eq_getElem?_getD, List.getElem?_eq_getElem (by omega)]
  exact List.getElem_mem _
theorem intsOf_ints (ns : List Int) : intsOf (ns.map PyData.int) = some ns := by
  have := intsOf_mp (fun i : Int => i) ns
  rwa [List.map_id'] at this
end Lw
end

section
set_option maxRecDepth 100000
set_option maxHeartbeats 4000000
namespace Lw
open PySem PySem.Spec L2 Mi
theorem fin_app (S rest : Sto) (h : Okk S) (x : D) : fin S.length (.d x) (S ++ rest) = .ok (.d x) S := by
  unfold fin
  rw [List.take_left, if_pos (show insOk _ _ = true from h)]
inductive Rch (M : Mo) (some : List Int) : Int → Prop
  | base {k : Int} : k ∈ some → Rch M some k
  | step {j k : Int} : Rch M some j → k ∈ M.steps j.toNat → Rch M some k
end Lw
end

section
set_option maxRecDepth 100000
set_option maxHeartbeats 4000000
namespace Lw
open PySem PySem.Spec L2 Mi
/-! ### where a saying holds -/
def Mo.tr (M : Mo) : Pl → Int → Prop
  | .fact i, w => (i : Int) ∈ M.wor.getD w.toNat []
  | .no p, w => ¬ M.tr p w
  | .holds m p, w => ∀ v ∈ M.view m w.toNat, M.tr p v
  | .may m p, w => ∃ v ∈ M.view m w.toNat, M.tr p v
  | .all p, w => ∀ v ∈ M.steps w.toNat, M.tr p v
  | .com p, w => ∀ v, Rch M (M.steps w.toNat) v → M.tr p v
  | .an p q, w => M.tr p w ∧ M.tr q w
  | .or p q, w => M.tr p w ∨ M.tr q w
open Classical in
noncomputable def Mo.trB (M : Mo) (p : Pl) (w : Int) : Bool := decide (M.tr p w)
def Mo.ws (M : Mo) : List Int := (List.range M.n).map fun k : Nat => (k : Int)
noncomputable def Mo.wl (M : Mo) (p : Pl) : List Int := M.ws.filter (M.trB p)
/-! keys -/
def Pl.key : Pl → NestedKey
  | .fact i => .tup [.text "fact", .num i]
  | .no p => .tup [.text "not", p.key]
  | .holds m p => .tup [.text "holds", .num m, p.key]
  | .may m p => .tup [.text "may", .num m, p.key]
  | .all p => .tup [.text "all", p.key]
  | .com p => .tup [.text "common", p.key]
  | .an p q => .tup [.text "and", p.key, q.key]
  | .or p q => .tup [.text "or", p.key, q.key]
def Pl.wd : Pl → Str
  | .fact _ => "fact"
  | .no _ => "not"
  | .holds _ _ => "holds"
  | .may _ _ => "may"
  | .all _ => "all"
  | .com _ => "common"
  | .an _ _ => "and"
  | .or _ _ => "or"
end Lw
end

section
set_option maxRecDepth 100000
set_option maxHeartbeats 4000000
namespace Lw
open PySem PySem.Spec L2 Mi
theorem vIn_nums (i : Int) (xs : List Int) (st : Sto) : vIn (.d (.int i)) (.d (numsD xs)) st = some (.d (.bool (decide (i ∈ xs))), st) := by
  have h1 : fitsIn (xs.map PyData.int) (.int i) = true := by
    unfold fitsIn
    rw [plainAll_mp PyData.int xs fun x _ => rfl, depth_int, plain_int, Nat.min_zero]; rfl
  have h2 : ((xs.map PyData.int).any fun y => PyData.eqv y (.int i)) = decide (i ∈ xs) := by
    rw [List.any_map]
    clear h1
    induction xs with
    | nil => simp
    | cons a l ih =>
      rw [List.any_cons, ih]
      by_cases q : i = a
      · subst q; simp
      · have : ¬ a = i := fun h => q h.symm
        simp [q, this]
  unfold numsD
  simp only [vIn, datOf, sqOf, h1, h2, if_true]
end Lw
end

section
set_option maxRecDepth 100000
set_option maxHeartbeats 4000000
namespace Lw
open PySem PySem.Spec L2 Mi
section
variable {M : Mo} (hM : M.Ok)
theorem len_wor (M : Mo) (hM : M.Ok) (st : Sto) : bLen [.d (.tuple (M.wor.map numsD))] st = some (.d (.int M.n), st) := by
  simp only [bLen, lenOf, sqOf, Option.map_some, List.length_map]; rfl
theorem m2 (M : Mo) (st : Sto) : vIx (.d M.d) (.d (.int 2)) st = some (.d (.tuple (M.wor.map numsD)), st) := rfl
theorem m3 (M : Mo) (st : Sto) : vIx (.d M.d) (.d (.int 3)) st = some (.d (viewsD M.vie), st) := rfl
theorem wEq (a b : Str) (st : Sto) : vEq (.d (.str a)) (.d (.str b)) st = some (.d (.bool (a == b)), st) := by simp only [vEq, datOf, fits_str, if_true, eqv_str]
end
end Lw
end

section
set_option maxRecDepth 100000
set_option maxHeartbeats 4000000
namespace Lw
open PySem PySem.Spec L2 Mi
/-! ### models are models, sayings sayings -/
theorem c_is_model (n : Nat) (M : Mo) (hM : M.Ok) (st : Sto) (h : Okk st) : Fs (n + 4) i_is_model [.d M.d] st = .ok (.d (.bool true)) st := by
  rw [e_is_model]
  have h60 := hM.n60
  have w1 := c_is_whole (n + 2) (.int M.minds) 1 3 st h trivial
  have w2 := c_is_whole (n + 2) (.int M.facts) 1 4 st h trivial
  have i1 : isWhole (.int M.minds) 1 3 = true := by have := hM.m1; have := hM.m3; simp [isWhole]; omega
  have i2 : isWhole (.int M.facts) 1 4 = true := by have := hM.f1; have := hM.f4; simp [isWhole]; omega
  rw [i1] at w1
  rw [i2] at w2
  have v := c_are_views n M.vie M.minds M.n st h (by have := hM.m3; omega) (by omega) hM.vl hM.ol hM.vo (fun own ho xs hx => by have := nums_len (hM.vo own ho xs hx); omega)
  have g1 := compL_mp (st := st) (tg := .nm 2) (tt := kYes) (ee := eCl 2 (Fs (n + 3) i_are_numbers) (aCons (eVar 2) (aCons (eOp vIx (eVar 0) (eC (.int 1))) aNil))) (env := [some (.d M.d), some (.d (.tuple (M.wor.map numsD))), none]) numsD (fun _ => .bool true) M.wor (by
    intro xs hx
    have := c_are_numbers (n + 1) xs M.facts st h (by have := nums_len (hM.wo xs hx); have := hM.f4; omega)
    rw [hM.wo xs hx] at this
    have m1 : vIx (.d M.d) (.d (.int 1)) st = some (.d (.int M.facts), st) := rfl
    refine ⟨_, rfl, rfl, ?_⟩
    simp! only [ssE_ok, m1, this])
  have a1 := bAll_mp (fun _ : List Int => true) M.wor st
  have t1 : (M.wor.all fun _ => true) = true := by simp
  rw [t1] at a1
  have s1 : small (M.wor.map numsD).length = true := small_le _ (by rw [List.length_map]; unfold Mo.n at h60; omega)
  have l1 := len_wor M hM st
  have c1 : (1 : Int) ≤ (M.n : Int) := by have := hM.n1; omega
  have c2 : (M.n : Int) ≤ 200 := by omega
  have l4 : bLen [.d M.d] st = some (.d (.int 4), st) := rfl
  have n4 : vNe (.d (.int 4)) (.d (.int 4)) st = some (.d (.bool false), st) := rfl
  have m0 : vIx (.d M.d) (.d (.int 0)) st = some (.d (.int M.minds), st) := rfl
  have m1 : vIx (.d M.d) (.d (.int 1)) st = some (.d (.int M.facts), st) := rfl
  have ty1 : tyOf (.d M.d) st = some "tuple" := rfl
  have ty2 : tyOf (.d (.tuple (M.wor.map numsD))) st = some "tuple" := rfl
  simp! only [ssE_ok, m_is_model, ty1, ty2, l4, n4, m0, m1, w1, w2, m2, m3, l1, c1, c2, s1, g1, a1, v, fin_d st h]
end Lw
end

section
set_option maxRecDepth 100000
set_option maxHeartbeats 4000000
namespace Lw
open PySem PySem.Spec L2 Mi
/-! ### drawn lists -/
abbrev drawE (n : Nat) (b : Int) : EE := eCl 3 (Fs (n + 3) i__law_draw) (aCons (eVar 0) (aCons (eVar 1) (aCons (eC (.int b)) aNil)))
theorem drawn (n : Nat) (ns : List Int) (hn : ns.length ≤ 63) (b : Int) (hb : 0 < b) (env : Ev) (h0 : env[0]? = some (some (.s ns))) (h1 : env[1]? = some (some (.r 0))) (xs : List D) (rest : Sto) (h : Okk (.lst xs :: rest)) (hx : xs.length < 1000000) : ∃ v : Int, 0 ≤ v ∧ v < b ∧ drawE n b env (.lst xs :: rest) = .ok (.d (.int v)) (.lst (xs ++ [.int 0]) :: rest) := by
  obtain ⟨v, v1, v2, hv⟩ := c_draw n ns b xs rest h hn hb hx
  refine ⟨v, v1, v2, ?_⟩
  simp! only [ssE_ok, drawE, h0, h1, hv]
theorem filter_drawn (n : Nat) (ns : List Int) (hn : ns.length ≤ 63) (b : Int) (hb : 0 < b) (s : Nat) (hs : 2 ≤ s) (env : Ev) (h0 : env[0]? = some (some (.s ns))) (h1 : env[1]? = some (some (.r 0))) (hsl : s < env.length) : ∀ (l : List Nat) (xs : List D) (rest : Sto), Okk (.lst xs :: rest) → xs.length + l.length < 1000000 → ∃ (l' : List Nat) (xs' : List D), l'.Sublist l ∧ xs'.length = xs.length + l.length ∧
    compL (.nm s) (eTst (eOp vEq (drawE n b) (eC (.int 0)))) (eVar s) env (l.map fun k : Nat => PyData.int (0 + (k : Nat))) (.lst xs :: rest) = .ok (l'.map fun k : Nat => PyData.int (k : Nat)) (.lst xs' :: rest) := by
  intro l
  induction l with
  | nil => intro xs rest h hx; exact ⟨[], xs, List.Sublist.refl _, rfl, rfl⟩
  | cons a l ih =>
    intro xs rest h hx
    rw [List.length_cons] at hx
    have e0 : (env.set s (some (.d (.int (0 + (a : Nat))))))[0]? = some (some (.s ns)) := by rw [List.getElem?_set_ne (by omega)]; exact h0
    have e1 : (env.set s (some (.d (.int (0 + (a : Nat))))))[1]? = some (some (.r 0)) := by rw [List.getElem?_set_ne (by omega)]; exact h1
    have e2 : (env.set s (some (.d (.int (0 + (a : Nat))))))[s]? = some (some (.d (.int (0 + (a : Nat))))) := List.getElem?_set_self hsl
    obtain ⟨v, v1, v2, hv⟩ := drawn n ns hn b hb _ e0 e1 xs rest h (by omega)
    obtain ⟨l', xs', s1, s2, s3⟩ := ih (xs ++ [.int 0]) rest h (by simp; omega)
    have tt : eTst (eOp vEq (drawE n b) (eC (.int 0))) (env.set s (some (.d (.int (0 + (a : Nat)))))) (.lst xs :: rest) = .ok (decide (v = 0)) (.lst (xs ++ [.int 0]) :: rest) := by
      rw [eTst_eq, eOp_eq, hv, op1_ok, eC_eq, op2_ok]
      simp only [vEq, datOf, fits_int, if_true, eqv_int, R.of_some, tst_ok]
      by_cases q : v = 0 <;> simp [q]
    by_cases q : v = 0
    · refine ⟨a :: l', xs', s1.cons₂ a, by rw [s2]; simp; omega, ?_⟩
      rw [decide_eq_true q] at tt
      simp only [List.map_cons, compL, Tg.put, tt, noX_ok, R.bind, eVar_eq, e2, getv_ok, toD, s3]
      simp
    · refine ⟨l', xs', s1.cons a, by rw [s2]; simp; omega, ?_⟩
      rw [decide_eq_false q] at tt
      simp only [List.map_cons, compL, Tg.put, tt, noX_ok, R.bind, s3]
theorem list_drawn (n : Nat) (ns : List Int) (hn : ns.length ≤ 63) (b : Int) (hb : 0 < b) (s : Nat) (hs : 2 ≤ s) (env : Ev) (h0 : env[0]? = some (some (.s ns))) (h1 : env[1]? = some (some (.r 0))) : ∀ (l : List D) (xs : List D) (rest : Sto), Okk (.lst xs :: rest) → xs.length + l.length < 1000000 → ∃ (vs : List Int) (xs' : List D), vs.length = l.length ∧ xs'.length = xs.length + l.length ∧
    compL (.nm s) kYes (drawE n b) env l (.lst xs :: rest) = .ok (vs.map .int) (.lst xs' :: rest) := by
  intro l
  induction l with
  | nil => intro xs rest h hx; exact ⟨[], xs, rfl, rfl, rfl⟩
  | cons a l ih =>
    intro xs rest h hx
    rw [List.length_cons] at hx
    have e0 : (env.set s (some (.d a)))[0]? = some (some (.s ns)) := by rw [List.getElem?_set_ne (by omega)]; exact h0
    have e1 : (env.set s (some (.d a)))[1]? = some (some (.r 0)) := by rw [List.getElem?_set_ne (by omega)]; exact h1
    obtain ⟨v, v1, v2, hv⟩ := drawn n ns hn b hb _ e0 e1 xs rest h (by omega)
    obtain ⟨vs, xs', s1, s2, s3⟩ := ih (xs ++ [.int 0]) rest h (by simp; omega)
    refine ⟨v :: vs, xs', by simp [s1], by rw [s2]; simp; omega, ?_⟩
    simp only [compL, Tg.put, kYes_eq, noX_ok, R.bind, hv, toD, s3, List.map_cons]
theorem pw_lt2' : ∀ xs : List Int, xs.Pairwise (· < ·) → (xs.zip (xs.drop 1)).all lt2 = true
  | [], _ => rfl
  | [a], _ => rfl
  | a :: b :: r, h => by
    have h1 := List.rel_of_pairwise_cons h (a' := b) List.mem_cons_self
    have ih := pw_lt2' (b :: r) (List.Pairwise.of_cons h)
    simp only [List.drop_succ_cons, List.drop_zero, List.zip_cons_cons, List.all_cons, lt2, h1, decide_true, Bool.true_and] at ih ⊢
    cases r with
    | nil => rfl
    | cons c r => simpa using ih
theorem sub_nums (m : Nat) (l : List Nat) (h : l.Sublist (List.range m)) : numsOk m (l.map fun i : Nat => (i : Int)) = true := by
  unfold numsOk
  rw [Bool.and_eq_true]
  constructor
  · rw [List.all_map, List.all_eq_true]
    intro x hx
    have := List.mem_range.mp (h.mem hx)
    simp [inR, isWhole]
    omega
  · refine pw_lt2' _ ?_
    rw [List.pairwise_map]
    have := (List.pairwise_lt_range (n := m)).sublist h
    exact this.imp fun q => by omega
end Lw
end

section
set_option maxRecDepth 100000
set_option maxHeartbeats 4000000
namespace Lw
open PySem PySem.Spec L2 Mi
theorem rng (m : Nat) (h : m ≤ 1000) : (-(2 ^ 62) ≤ (m : Int) ∧ (m : Int) ≤ 1000000) := by omega
theorem nums_of {many : Nat} {xs : List Int} (h1 : xs.Pairwise (· < ·)) (h2 : ∀ x ∈ xs, 0 ≤ x ∧ x < (many : Int)) : numsOk many xs = true := by
  unfold numsOk
  rw [Bool.and_eq_true]
  refine ⟨?_, pw_lt2' xs h1⟩
  rw [List.all_eq_true]
  intro x hx
  have := h2 x hx
  simp [inR, isWhole]
  omega
theorem ins_app (k : Nat) (a b : Sto) : insOk k (a ++ b) = (insOk k a && insOk k b) := by
  induction a with
  | nil => rfl
  | cons o r ih =>
    cases o with
    | ins c fs => simp only [List.cons_append, insOk, ih, Bool.and_assoc]
    | lst _ => exact ih
    | dK _ => exact ih
    | dN _ => exact ih
    | dL _ => exact ih
    | gone => exact ih
def noIns : Sto → Bool
  | [] => true
  | .ins _ _ :: _ => false
  | _ :: r => noIns r
theorem noIns_ok : ∀ (S : Sto) (k : Nat), noIns S = true → insOk k S = true
  | [], _, _ => rfl
  | .lst _ :: r, k, h => noIns_ok r k h
  | .dK _ :: r, k, h => noIns_ok r k h
  | .dN _ :: r, k, h => noIns_ok r k h
  | .dL _ :: r, k, h => noIns_ok r k h
  | .gone :: r, k, h => noIns_ok r k h
theorem noIns_app : ∀ (a b : Sto), noIns (a ++ b) = (noIns a && noIns b)
  | [], b => rfl
  | .lst _ :: r, b => noIns_app r b
  | .dK _ :: r, b => noIns_app r b
  | .dN _ :: r, b => noIns_app r b
  | .dL _ :: r, b => noIns_app r b
  | .gone :: r, b => noIns_app r b
  | .ins _ _ :: r, b => rfl
def pok (P : Sto) : Bool := insOk (P.length + 1) P
theorem pok_app {P J : Sto} (h : pok P = true) (hJ : noIns J = true) : pok (P ++ J) = true := by
  unfold pok at *
  rw [ins_app, insOk_mono (by rw [List.length_append]; omega) h, noIns_ok J _ hJ]
  rfl
abbrev ST (P : Sto) (xs made : List D) (junk : Sto) : Sto := .lst xs :: (P ++ .lst made :: junk)
theorem st_get (P : Sto) (xs made : List D) (junk : Sto) : (ST P xs made junk)[P.length + 1]? = some (.lst made) := by simp [ST]
theorem st_set (P : Sto) (xs made m2 : List D) (junk : Sto) : (ST P xs made junk).set (P.length + 1) (.lst m2) = ST P xs m2 junk := by simp [ST]
theorem st_okk {P : Sto} (hP : pok P = true) (xs made : List D) {junk : Sto} (hj : noIns junk = true) : Okk (ST P xs made junk) := pok_app (J := .lst made :: junk) hP hj
theorem st_get2 (P : Sto) (xs made : List D) (junk : Sto) (o : MO) : (ST P xs made (junk ++ [o]))[P.length + 1 + 1 + junk.length]? = some o := by
  show (MO.lst xs :: (P ++ .lst made :: (junk ++ [o])))[P.length + 1 + 1 + junk.length]? = _
  rw [show P.length + 1 + 1 + junk.length = (P.length + (junk.length + 1)) + 1 by omega, List.getElem?_cons_succ, List.getElem?_append_right (by omega), show P.length + (junk.length + 1) - P.length = junk.length + 1 by omega, List.getElem?_cons_succ]
  simp
theorem st_set2 (P : Sto) (xs made : List D) (junk : Sto) (o o2 : MO) : (ST P xs made (junk ++ [o])).set (P.length + 1 + 1 + junk.length) o2 = ST P xs made (junk ++ [o2]) := by
  show (MO.lst xs :: (P ++ .lst made :: (junk ++ [o]))).set (P.length + 1 + 1 + junk.length) o2 = _
  rw [show P.length + 1 + 1 + junk.length = (P.length + (junk.length + 1)) + 1 by omega, List.set_cons_succ, List.set_append_right _ _ (by omega), show P.length + (junk.length + 1) - P.length = junk.length + 1 by omega, List.set_cons_succ]
  simp [ST]
abbrev inBody (n : Nat) : ES := sSeq (sSet 11 (eLc [13] (.nm 13) (iRange (aCons (eVar 4) aNil)) (eTst (eOp vEq (drawE n 3) (eC (.int 0)))) (eVar 13)))
    (sExpr (eAppend (eVar 9) (eCB bTuple (aCons (eSortSet (eOp vAdd (eVar 11) (eOp vMul (eLst (aCons (eVar 10) aNil)) (eCB bInt (aCons (eOp vEq (eVar 7) (eC (.int 1))) aNil))))) aNil))))
end Lw
end

section
set_option maxRecDepth 100000
set_option maxHeartbeats 4000000
namespace Lw
open PySem PySem.Spec L2 Mi
theorem Rch.mono {M : Mo} {a b : List Int} (h : ∀ x ∈ a, Rch M b x) {k : Int} (r : Rch M a k) : Rch M b k := by
  induction r with
  | base h1 => exact h _ h1
  | step _ h2 ih => exact .step ih h2
end Lw
end

section
set_option maxRecDepth 100000
set_option maxHeartbeats 4000000
namespace Lw
open PySem PySem.Spec L2 Mi
def liD (l : List Int) : D := .list (l.map .int)
theorem li_plain (l : List Int) : (liD l).plain = true ∧ (liD l).depth ≤ 1 := by
  refine ⟨plainAll_mp _ _ fun _ _ => rfl, ?_⟩
  have : ∀ l : List Int, PyData.depthAll (l.map PyData.int) = 0 := fun l => by
    induction l with
    | nil => rfl
    | cons a l ih => show max 0 (PyData.depthAll (l.map PyData.int)) = 0; rw [ih]; rfl
  show PyData.depthAll (l.map PyData.int) + 1 ≤ 1
  rw [this]
  exact Nat.le_refl _
theorem in_li (i : Int) (l : List Int) (st : Sto) : vIn (.d (.int i)) (.d (liD l)) st = some (.d (.bool (decide (i ∈ l))), st) := by
  have := vIn_nums i l st
  simp only [numsD, vIn, datOf, sqOf] at this
  simp only [liD, vIn, datOf, sqOf, lsOf, this]
theorem lc_inV (j : Nat) (A B : List Int) (env : Ev) (hl : j < env.length) (st : Sto) (e2 : EE) (h2 : ∀ x, e2 (env.set j x) st = .ok (.d (liD B)) st) : compL (.nm j) (eTst (eOp vIn (eVar j) e2)) (eVar j) env (A.map .int) st = .ok ((A.filter fun x => decide (x ∈ B)).map .int) st :=
  compL_fl .int _ .int A fun x _ => ⟨_, rfl, by
    rw [eTst_eq, eOp_eq, eVar_eq, List.getElem?_set_self hl, getv_ok, op1_ok, h2, op2_ok, in_li]; rfl, fun _ => by rw [eVar_eq, List.getElem?_set_self hl]; rfl⟩
theorem lc_in (A B : List Int) (env : Ev) (hl : 16 < env.length) (st : Sto) (e2 : EE) (h2 : ∀ x, e2 (env.set 16 x) st = .ok (.d (liD B)) st) : compL (.nm 16) (eTst (eOp vIn (eVar 16) e2)) (eVar 16) env (A.map .int) st = .ok ((A.filter fun x => decide (x ∈ B)).map .int) st := lc_inV 16 A B env hl st e2 h2
end Lw
end

section
set_option maxRecDepth 100000
set_option maxHeartbeats 4000000
namespace Lw
open PySem PySem.Spec L2 Mi
theorem eqvAll_ints : ∀ a b : List Int, PyData.eqvAll (a.map PyData.int) (b.map PyData.int) = decide (a = b)
  | [], [] => by simp [PyData.eqvAll]
  | [], _ :: _ => by simp [PyData.eqvAll]
  | _ :: _, [] => by simp [PyData.eqvAll]
  | x :: a, y :: b => by
    simp only [List.map_cons, PyData.eqvAll, eqvAll_ints a b, eqv_int]
    by_cases q : x = y <;> by_cases r : a = b <;> simp [q, r]
theorem nums_plain (l : List Int) : (numsD l).plain = true ∧ (numsD l).depth ≤ 1 := li_plain l
theorem fits_nums (a b : List Int) : fits (numsD a) (numsD b) = true := by
  have h1 := nums_plain a; have h2 := nums_plain b
  simp [fits, h1.1, h2.1]; have := h1.2; have := h2.2; omega
theorem eqv_nums (a b : List Int) : PyData.eqv (numsD a) (numsD b) = decide (a = b) := by rw [← eqvAll_ints a b]; rfl
theorem ne_nums (a b : List Int) (st : Sto) : vNe (.d (numsD a)) (.d (numsD b)) st = some (.d (.bool (!decide (a = b))), st) := by
  simp only [vNe, datOf, fits_nums, if_true, eqv_nums]
def ownD (own : List (List Int)) : D := .tuple (own.map numsD)
def Mo.own (M : Mo) (m : Nat) : List (List Int) := M.vie.getD m []
end Lw
end

section
set_option maxRecDepth 100000
set_option maxHeartbeats 4000000
namespace Lw
open PySem PySem.Spec L2 Mi
def caD (M : Mo) (w : Nat) : D := .tuple [M.d, .int w]
theorem c_is_case (n : Nat) (M : Mo) (hM : M.Ok) (w : Nat) (hw : w < M.n) (st : Sto) (h : Okk st) : Fs (n + 5) i_is_case [.d (caD M w)] st = .ok (.d (.bool true)) st := by
  rw [e_is_case]
  have im := c_is_model n M hM st h
  have wh := c_is_whole (n + 3) (.int w) 0 ((M.n : Int) - 1) st h trivial
  have i : isWhole (.int w) 0 ((M.n : Int) - 1) = true := by simp [isWhole]; omega
  rw [i] at wh
  have ty : tyOf (.d (caD M w)) st = some "tuple" := rfl
  have l2 : bLen [.d (caD M w)] st = some (.d (.int 2), st) := rfl
  have n2 : vNe (.d (.int 2)) (.d (.int 2)) st = some (.d (.bool false), st) := rfl
  have c0 : vIx (.d (caD M w)) (.d (.int 0)) st = some (.d M.d, st) := rfl
  have c1 : vIx (.d (caD M w)) (.d (.int 1)) st = some (.d (.int w), st) := rfl
  simp! only [ssE_ok, m_is_case, ty, l2, n2, c0, c1, im, m2, len_wor M hM, wh, fin_d st h]
theorem c_need_case (n : Nat) (M : Mo) (hM : M.Ok) (w : Nat) (hw : w < M.n) (st : Sto) (h : Okk st) : Fs (n + 6) i_need_case [.d (caD M w)] st = .ok (.d .none) st := by
  rw [e_need_case]
  simp! only [ssE_ok, m_need_case, c_is_case n M hM w hw st h, fin_d st h]
end Lw
end

section
set_option maxRecDepth 100000
set_option maxHeartbeats 1000000
namespace Lw
open PySem PySem.Spec L2 Mi
/-! ### the text of a case -/
def iT (i : Int) : Str := Str.ofString (toString i)
theorem iT_len {i : Int} (h : 0 ≤ i) (h2 : i < 1000) : (iT i).length ≤ 3 := PyProof.Rows.toString_length_le h (by decide) (by omega)
def numT (xs : List Int) : Str := if xs = [] then "-" else PySem.Txt.join " " (xs.map iT)
def rowT (rows : List (List Int)) : Str := PySem.Txt.join ", " (rows.map numT)
def headT (M : Mo) : Str := (iT M.minds ++ (" " : Str)) ++ iT M.facts
def caseT (M : Mo) (w : Int) : Str := PySem.Txt.join " | " (headT M :: rowT M.wor :: (M.vie.map rowT ++ [iT w]))
theorem join_len (a : Str) (B : Nat) : ∀ (ys : List Str), (∀ y ∈ ys, y.length ≤ B) → (PySem.Txt.join a ys).length ≤ ys.length * (B + a.length)
  | [], _ => by
    show (Builtin.Str.glued a []).length ≤ _
    rw [StrLaws.glued_eq_join]; exact Nat.zero_le _
  | [y], h => by
    have := h y List.mem_cons_self
    show (Builtin.Str.glued a [y]).length ≤ _
    rw [StrLaws.glued_eq_join]
    show y.length ≤ _
    rw [List.length_singleton]; omega
  | y :: z :: r, h => by
    have h1 := h y List.mem_cons_self
    have ih := join_len a B (z :: r) fun x hx => h x (List.mem_cons_of_mem _ hx)
    have e1 : PySem.Txt.join a (z :: r) = Str.join a (z :: r) := StrLaws.glued_eq_join a _
    have e2 : PySem.Txt.join a (y :: z :: r) = y ++ a ++ Str.join a (z :: r) := StrLaws.glued_eq_join a _
    rw [e1] at ih
    rw [e2, Str.length_append, Str.length_append, List.length_cons, Nat.succ_mul]
    omega
theorem join_head (a y : Str) (r : List Str) : y.length ≤ (PySem.Txt.join a (y :: r)).length := by
  have e2 : PySem.Txt.join a (y :: r) = Str.join a (y :: r) := StrLaws.glued_eq_join a _
  rw [e2]
  cases r with
  | nil => exact Nat.le_refl _
  | cons z r =>
    show _ ≤ (y ++ a ++ Str.join a (z :: r)).length
    rw [Str.length_append, Str.length_append]; omega
theorem strs_map : ∀ ys : List Str, strsOf (ys.map PyData.str) = some ys
  | [] => rfl
  | y :: r => by
    have ih := strs_map r
    simp only [List.map_cons, strsOf, ih, Option.map_some]
theorem join_ok {eo ea : EE} {env : Ev} {st s s2 : Sto} {a : Str} {y : Val} {ys : List Str} (h1 : eo env st = .ok (.d (.str a)) s) (h2 : ea env s = .ok y s2) (h3 : sqOf y s2 = some (ys.map .str)) (B : Nat) (hB : ∀ y ∈ ys, y.length ≤ B) (h5 : ys.length * B + ys.length * a.length ≤ 1000000) : eJoin eo ea env st = .ok (.d (.str (PySem.Txt.join a ys))) s2 := by
  have h4 := StrLaws.sumLen_le ys hB
  have sm : small ((ys.map (·.length)).sum + ys.length * a.length) = true := decide_eq_true (by omega)
  unfold eJoin
  rw [h1]
  simp only [R.bind_ok, h2, h3, strs_map, sm, if_true]
theorem log2_lt {i : Int} (h0 : 0 ≤ i) (h : i < 1000) : i.natAbs.log2 < 1920 := by
  obtain ⟨k, rfl⟩ := Int.eq_ofNat_of_zero_le h0
  rw [Int.natAbs_natCast]
  by_cases hk : k = 0
  · subst hk; decide
  · exact (Nat.log2_lt hk).mpr (Nat.lt_of_lt_of_le (show k < 2 ^ 10 by omega) (Nat.pow_le_pow_right (by decide) (by decide)))
theorem strI_ok {i : Int} (h0 : 0 ≤ i) (h : i < 1000) (st : Sto) : bStrI [.d (.int i)] st = some (.d (.str (iT i)), st) := if_pos (log2_lt h0 h)
theorem numT_len {xs : List Int} (h : ∀ x ∈ xs, 0 ≤ x ∧ x < 1000) (hl : xs.length ≤ 120) : (numT xs).length ≤ 480 := by
  unfold numT
  split
  · decide
  · have := join_len " " 3 (xs.map iT) (fun y hy => by
      obtain ⟨x, hx, rfl⟩ := List.mem_map.mp hy
      exact iT_len (h x hx).1 (h x hx).2)
    have e : (" " : Str).length = 1 := rfl
    rw [e, List.length_map] at this
    omega
theorem c_numbers_text (n : Nat) (xs : List Int) (h : ∀ x ∈ xs, 0 ≤ x ∧ x < 1000) (hl : xs.length ≤ 120) (st : Sto) (ok : Okk st) : Fs (n + 1) i_numbers_text [.d (numsD xs)] st = .ok (.d (.str (numT xs))) st := by
  have ne := ne_nums xs [] st
  have te : (.tuple [] : D) = numsD [] := rfl
  have s0 : small 0 = true := rfl
  rw [e_numbers_text]
  by_cases hx : xs = []
  · have nt : numT xs = "-" := if_pos hx
    rw [decide_eq_true hx] at ne
    simp! only [ssE_ok, m_numbers_text, toDs, s0, te, ne, Bool.not_true, nt, fin_d st ok]
  · have nt : numT xs = PySem.Txt.join " " (xs.map iT) := if_neg hx
    rw [decide_eq_false hx] at ne
    have cm := compL_mp (st := st) (env := [some (.d (numsD xs)), none]) (tg := .nm 1) (tt := kYes) (ee := eCB bStrI (aCons (eVar 1) aNil)) PyData.int (fun i => .str (iT i)) xs (fun x hx => by
      refine ⟨_, rfl, rfl, ?_⟩
      simp! only [ssE_ok, strI_ok (h x hx).1 (h x hx).2 st])
    have sm : small (xs.map PyData.int).length = true := small_le _ (by rw [List.length_map]; omega)
    have sm2 : small (xs.map fun i => PyData.str (iT i)).length = true := small_le _ (by rw [List.length_map]; omega)
    have jo : eJoin (eC (.str " ")) (eLc [1] (.nm 1) (iSeq (eVar 0)) kYes (eCB bStrI (aCons (eVar 1) aNil))) [some (.d (numsD xs)), none] st = .ok (.d (.str (PySem.Txt.join " " (xs.map iT)))) st := by
      refine join_ok (y := .d (.list (xs.map fun i => PyData.str (iT i)))) (ys := xs.map iT) rfl ?_ (by simp [sqOf, lsOf, List.map_map]) 3 (fun y hy => ?_) ?_
      · simp only [numsD] at cm
        simp! only [ssE_ok, numsD, sm, sm2, cm]
      · obtain ⟨x, hx, rfl⟩ := List.mem_map.mp hy
        exact iT_len (h x hx).1 (h x hx).2
      · have e : (" " : Str).length = 1 := rfl
        rw [e, List.length_map]; omega
    simp! only [ssE_ok, m_numbers_text, toDs, s0, te, ne, Bool.not_false, jo, nt, fin_d st ok]
theorem rowT_len {rows : List (List Int)} (h : ∀ xs ∈ rows, xs.length ≤ 120 ∧ ∀ x ∈ xs, 0 ≤ x ∧ x < 1000) (hl : rows.length ≤ 120) : (rowT rows).length ≤ 57840 := by
  have := join_len ", " 480 (rows.map numT) (fun y hy => by
    obtain ⟨x, hx, rfl⟩ := List.mem_map.mp hy
    exact numT_len (h x hx).2 (h x hx).1)
  have e : (", " : Str).length = 2 := rfl
  rw [e, List.length_map] at this
  unfold rowT
  omega
theorem c_row_text (n : Nat) (rows : List (List Int)) (h : ∀ xs ∈ rows, xs.length ≤ 120 ∧ ∀ x ∈ xs, 0 ≤ x ∧ x < 1000) (hl : rows.length ≤ 120) (st : Sto) (ok : Okk st) : Fs (n + 2) i_row_text [.d (.tuple (rows.map numsD))] st = .ok (.d (.str (rowT rows))) st := by
  have cm := compL_mp (st := st) (env := [some (.d (.tuple (rows.map numsD))), none]) (tg := .nm 1) (tt := kYes) (ee := eCl 1 (Fs (n + 1) i_numbers_text) (aCons (eVar 1) aNil)) numsD (fun xs => .str (numT xs)) rows (fun xs hx => by
    refine ⟨_, rfl, rfl, ?_⟩
    simp! only [ssE_ok, c_numbers_text n xs (h xs hx).2 (h xs hx).1 st ok])
  have sm : small (rows.map numsD).length = true := small_le _ (by rw [List.length_map]; omega)
  have sm2 : small (rows.map fun i => PyData.str (numT i)).length = true := small_le _ (by rw [List.length_map]; omega)
  have jo : eJoin (eC (.str ", ")) (eLc [1] (.nm 1) (iSeq (eVar 0)) kYes (eCl 1 (Fs (n + 1) i_numbers_text) (aCons (eVar 1) aNil))) [some (.d (.tuple (rows.map numsD))), none] st = .ok (.d (.str (PySem.Txt.join ", " (rows.map numT)))) st := by
    refine join_ok (y := .d (.list (rows.map fun i => PyData.str (numT i)))) (ys := rows.map numT) rfl ?_ (by simp [sqOf, lsOf, List.map_map]) 480 (fun y hy => ?_) ?_
    · simp! only [ssE_ok, sm, sm2, cm]
    · obtain ⟨x, hx, rfl⟩ := List.mem_map.mp hy
      exact numT_len (h x hx).2 (h x hx).1
    · have e : (", " : Str).length = 2 := rfl
      rw [e, List.length_map]; omega
  rw [e_row_text]
  simp! only [ssE_ok, m_row_text, jo, rowT, fin_d st ok]
end Lw
namespace Lw
open PySem PySem.Spec L2 Mi
theorem sorted_len : ∀ (xs : List Int) (a b : Int), xs.Pairwise (· < ·) → (∀ x ∈ xs, a ≤ x ∧ x < b) → (xs.length : Int) ≤ max 0 (b - a)
  | [], a, b, _, _ => by simp; omega
  | x :: r, a, b, hp, h => by
    have h1 := h x List.mem_cons_self
    have hp := List.pairwise_cons.mp hp
    have ih := sorted_len r (x + 1) b hp.2 fun y hy => ⟨by have := hp.1 y hy; omega, (h y (List.mem_cons_of_mem _ hy)).2⟩
    rw [List.length_cons]
    push_cast
    omega
theorem nums_txt {k : Nat} {xs : List Int} (h : numsOk k xs = true) (hk : k ≤ 120) : xs.length ≤ 120 ∧ ∀ x ∈ xs, 0 ≤ x ∧ x < 1000 := by
  obtain ⟨h1, h2⟩ := nums_is h
  have := sorted_len xs 0 k h2 (fun x hx => by have := h1 x hx; omega)
  exact ⟨by omega, fun x hx => by have := h1 x hx; omega⟩
theorem fmt_ok {e : EE} {env : Ev} {st : Sto} {i : Int} (h : e env st = .ok (.d (.int i)) st) (h0 : 0 ≤ i) (h2 : i < 1000) : eFmt e env st = .ok (.d (.str (iT i))) st := by
  unfold eFmt
  rw [h]
  exact if_pos (log2_lt h0 h2)
theorem joinF_cons {e : EE} {es : List EE} {acc : Str} {env : Ev} {st s : Sto} {y : Str} (h : e env st = .ok (.d (.str y)) s) (hs : (acc ++ y).length ≤ 1000000) : eJoinF (e :: es) acc env st = eJoinF es (acc ++ y) env s := by
  show (e env st).bind _ = _
  rw [h]
  exact if_pos (decide_eq_true hs)
theorem c_case_text (n : Nat) (M : Mo) (hM : M.Ok) (w : Nat) (hw : w < M.n) (st : Sto) (ok : Okk st) : Fs (n + 3) i_case_text [.d (caD M w)] st = .ok (.d (.str (caseT M w))) st := by
  have n60 := hM.n60
  have f4 := hM.f4
  have m3 := hM.m3
  have c0 : ∀ st : Sto, vIx (.d M.d) (.d (.int 0)) st = some (.d (.int M.minds), st) := fun _ => rfl
  have c1 : ∀ st : Sto, vIx (.d M.d) (.d (.int 1)) st = some (.d (.int M.facts), st) := fun _ => rfl
  have c2 : ∀ st : Sto, vIx (.d M.d) (.d (.int 2)) st = some (.d (.tuple (M.wor.map numsD)), st) := fun _ => rfl
  have c3 : ∀ st : Sto, vIx (.d M.d) (.d (.int 3)) st = some (.d (.tuple (M.vie.map ownD)), st) := fun _ => rfl
  have i1 : (iT M.minds).length ≤ 3 := iT_len (by omega) (by omega)
  have i2 : (iT M.facts).length ≤ 3 := iT_len (by omega) (by omega)
  have e0 : Str.empty.length = 0 := rfl
  have e1 : (" " : Str).length = 1 := rfl
  have hd : eJoinF [eFmt (eOp vIx (eVar 1) (eC (.int 0))), eC (.str " "), eFmt (eOp vIx (eVar 1) (eC (.int 1)))] Str.empty [some (.d (caD M w)), some (.d M.d), some (.d (.int w)), none, none] st = .ok (.d (.str (headT M))) st := by
    rw [joinF_cons (fmt_ok (i := M.minds) (by simp! only [ssE_ok, c0]) (by omega) (by omega)) (by rw [Str.length_append]; omega), joinF_cons (y := " ") rfl (by rw [Str.length_append, Str.length_append]; omega), joinF_cons (fmt_ok (i := M.facts) (by simp! only [ssE_ok, c1]) (by omega) (by omega)) (by rw [Str.length_append, Str.length_append, Str.length_append]; omega)]
    unfold headT
    have ee : Str.empty ++ iT M.minds = iT M.minds := PySem.W.KT.empty_app _
    rw [ee]; rfl
  have r1 := c_row_text n M.wor (fun xs hx => nums_txt (hM.wo xs hx) (by omega)) n60 st ok
  have cm := compL_mp (st := st) (env := [some (.d (caD M w)), some (.d M.d), some (.d (.int w)), none, none]) (tg := .nm 4) (tt := kYes) (ee := eCl 1 (Fs (n + 2) i_row_text) (aCons (eVar 4) aNil)) ownD (fun own => .str (rowT own)) M.vie (fun own ho => by
    have r := c_row_text n own (fun xs hx => nums_txt (hM.vo own ho xs hx) n60) (by rw [hM.ol own ho]; exact n60) st ok
    refine ⟨_, rfl, rfl, ?_⟩
    have r' : Fs (n + 2) i_row_text [.d (ownD own)] st = .ok (.d (.str (rowT own))) st := r
    simp! only [ssE_ok, r'])
  have sm : small (M.vie.map ownD).length = true := small_le _ (by rw [List.length_map, hM.vl]; omega)
  have sm2 : small (M.vie.map fun i => PyData.str (rowT i)).length = true := small_le _ (by rw [List.length_map, hM.vl]; omega)
  have s1 : small 1 = true := rfl
  have s2 : small 2 = true := rfl
  have vp : ∀ st : Sto, vAdd (.d (.list [.str (headT M), .str (rowT M.wor)])) (.d (.list (M.vie.map fun i => PyData.str (rowT i)))) st = some (.d (.list ([.str (headT M), .str (rowT M.wor)] ++ M.vie.map fun i => PyData.str (rowT i))), st) := fun st => if_pos (small_le _ (by rw [List.length_map, hM.vl]; simp; omega))
  have vp2 : ∀ st : Sto, vAdd (.d (.list ([.str (headT M), .str (rowT M.wor)] ++ M.vie.map fun i => PyData.str (rowT i)))) (.d (.list [.str (iT w)])) st = some (.d (.list (([.str (headT M), .str (rowT M.wor)] ++ M.vie.map fun i => PyData.str (rowT i)) ++ [.str (iT w)])), st) := fun st => if_pos (small_le _ (by rw [List.length_append, List.length_map, hM.vl]; simp; omega))
  have si := strI_ok (i := w) (by omega) (by omega) st
  have jo : eJoin (eC (.str " | ")) (eOp vAdd (eVar 3) (eLst (aCons (eCB bStrI (aCons (eVar 2) aNil)) aNil))) [some (.d (caD M w)), some (.d M.d), some (.d (.int w)), some (.d (.list ([.str (headT M), .str (rowT M.wor)] ++ M.vie.map fun i => PyData.str (rowT i)))), none] st = .ok (.d (.str (caseT M w))) st := by
    refine join_ok (y := .d (.list (([.str (headT M), .str (rowT M.wor)] ++ M.vie.map fun i => PyData.str (rowT i)) ++ [.str (iT w)]))) (ys := headT M :: rowT M.wor :: (M.vie.map rowT ++ [iT w])) rfl ?_ (by simp [sqOf, lsOf, List.map_map]) 57840 (fun y hy => ?_) ?_
    · simp! only [ssE_ok, si, toDs, s1, vp2]
    · rcases List.mem_cons.mp hy with rfl | hy
      · have : (headT M).length ≤ 7 := by
          unfold headT
          rw [Str.length_append, Str.length_append, e1]; omega
        omega
      rcases List.mem_cons.mp hy with rfl | hy
      · exact rowT_len (fun xs hx => nums_txt (hM.wo xs hx) (by omega)) n60
      rcases List.mem_append.mp hy with hy | hy
      · obtain ⟨own, ho, rfl⟩ := List.mem_map.mp hy
        exact rowT_len (fun xs hx => nums_txt (hM.vo own ho xs hx) n60) (by rw [hM.ol own ho]; exact n60)
      · rw [List.mem_singleton.mp hy]
        have := iT_len (i := w) (by omega) (by omega)
        omega
    · have e : (" | " : Str).length = 3 := rfl
      simp only [List.length_cons, List.length_append, List.length_map, List.length_nil, hM.vl, e]; omega
  rw [e_case_text]
  simp! only [ssE_ok, m_case_text, caD, setVs] at hd jo cm ⊢
  simp! only [ssE_ok, setVs, hd, jo, cm, toDs, s1, s2, sm, sm2, c2, c3, r1, vp, fin_d st ok]
end Lw
end

section
set_option maxRecDepth 100000
set_option maxHeartbeats 1000000
namespace Lw
open PySem PySem.Spec L2 Mi PySem.StrLaws PySem.Builtin.Str
/-! ### split and join -/
structure Sep (sep : Str) (c i0 : Nat) : Prop where
  at' : sep.cps.toList[i0]? = some c
  no : ∀ k < i0, sep.cps.toList[k]? ≠ some c
theorem at_get {x sep : Str} {c i0 k : Nat} (hs : Sep sep c i0) (h : At x sep x.length k) : x.cps.toList[k + i0]? = some c := by
  have h2 := h.2
  rw [subAt_eq] at h2
  have e := eq_of_beq h2
  have hl : i0 < sep.length := by
    have := (List.getElem?_eq_some_iff.mp hs.at').1
    simpa [Str.length] using this
  have := hs.at'
  rw [← e, List.getElem?_take_of_lt hl, List.getElem?_drop] at this
  exact this
theorem cps_len (x : Str) : x.cps.toList.length = x.length := by simp [Str.length]
theorem at_of {x sep : Str} {k : Nat} {r : List Nat} (hk : k ≤ x.length) (h : x.cps.toList.drop k = sep.cps.toList ++ r) : At x sep x.length k := by
  have hl : (x.cps.toList.drop k).length = sep.length + r.length := by rw [h]; simp [Str.length]
  refine ⟨?_, ?_⟩
  · rw [List.length_drop, cps_len] at hl; omega
  · rw [subAt_eq, h, List.take_left' (cps_len sep)]
    exact beq_self_eq_true _
theorem sub_of {x p : Str} {a : Nat} {r : List Nat} (h : x.cps.toList.drop a = p.cps.toList ++ r) (b : Nat) (hb : b = a + p.length) : strSub x a b = p := by
  apply Str.ext'
  apply Array.toList_inj.mp
  rw [strSub_toList, h, hb, show a + p.length - a = p.length by omega, List.take_left' (cps_len p)]
theorem jn_cons (sep p q : Str) (r : List Str) : (Str.join sep (p :: q :: r)).cps.toList = p.cps.toList ++ (sep.cps.toList ++ (Str.join sep (q :: r)).cps.toList) := by
  show (p ++ sep ++ Str.join sep (q :: r)).cps.toList = _
  simp only [Str.cps_append, Array.toList_append, List.append_assoc]
theorem parts_join {x sep : Str} {c i0 : Nat} (hs : Sep sep c i0) : ∀ (r : List Str) (p : Str) (a : Nat) (cuts : List Nat) (f : Nat), a ≤ x.length → x.cps.toList.drop a = (Str.join sep (p :: r)).cps.toList → (∀ q ∈ p :: r, c ∉ q.cps.toList) → ChainG x sep x.length a cuts f → (∀ k, f ≤ k → ¬ At x sep x.length k) → partsFrom x sep.length a cuts = p :: r
  | [], p, a, cuts, f, ha, hx, hf, hG, hn => by
    have hx : x.cps.toList.drop a = p.cps.toList := hx
    have no : ∀ k, a ≤ k → ¬ At x sep x.length k := fun k hk hA => by
      have := at_get hs hA
      have e : (x.cps.toList.drop a)[k - a + i0]? = some c := by rw [List.getElem?_drop, show a + (k - a + i0) = k + i0 by omega]; exact this
      rw [hx] at e
      exact hf p (by simp) (List.mem_of_getElem? e)
    cases cuts with
    | nil =>
      show [strSub x a x.length] = [p]
      rw [sub_of (r := []) (by rw [hx, List.append_nil]) x.length (by
        have : (x.cps.toList.drop a).length = p.length := by rw [hx, cps_len]
        rw [List.length_drop, cps_len] at this; omega)]
    | cons d ds => exact absurd hG.2.1 (no d hG.1)
  | q :: r, p, a, cuts, f, ha, hx, hf, hG, hn => by
    rw [jn_cons] at hx
    have hl : (x.cps.toList.drop a).length = p.length + (sep.length + (Str.join sep (q :: r)).length) := by rw [hx]; simp only [List.length_append, cps_len]
    rw [List.length_drop, cps_len] at hl
    have hd : x.cps.toList.drop (a + p.length) = sep.cps.toList ++ (Str.join sep (q :: r)).cps.toList := by
      rw [← List.drop_drop, hx, List.drop_left' (cps_len p)]
    have A0 : At x sep x.length (a + p.length) := at_of (by omega) hd
    have no : ∀ k, a ≤ k → k < a + p.length → ¬ At x sep x.length k := fun k h1 h2 hA => by
      have g := at_get hs hA
      have e : (x.cps.toList.drop a)[k - a + i0]? = some c := by rw [List.getElem?_drop, show a + (k - a + i0) = k + i0 by omega]; exact g
      rw [hx] at e
      by_cases z : k - a + i0 < p.length
      · rw [List.getElem?_append_left (by rw [cps_len]; exact z)] at e
        exact hf p (by simp) (List.mem_of_getElem? e)
      · have hi : i0 < sep.length := by
          have := (List.getElem?_eq_some_iff.mp hs.at').1
          rwa [cps_len] at this
        rw [List.getElem?_append_right (by rw [cps_len]; omega), cps_len, List.getElem?_append_left (by rw [cps_len]; omega)] at e
        exact hs.no _ (by omega) e
    cases cuts with
    | nil =>
      have e : f = a := hG
      exact absurd A0 (hn _ (by omega))
    | cons d ds =>
      obtain ⟨g1, g2, g3, g4⟩ := hG
      have ed : d = a + p.length := by
        rcases Nat.lt_trichotomy d (a + p.length) with z | z | z
        · exact absurd g2 (no d g1 z)
        · exact z
        · exact absurd A0 (g3 _ (by omega) z)
      subst ed
      have ih := parts_join hs r q (a + p.length + sep.length) ds f (by omega) (by rw [← List.drop_drop, hd, List.drop_left' (cps_len sep)]) (fun y hy => hf y (by simp at hy ⊢; right; exact hy)) g4 hn
      show strSub x a (a + p.length) :: partsFrom x sep.length (a + p.length + sep.length) ds = _
      rw [ih, sub_of hx _ rfl]
theorem kind1 (x : Str) : 1 ≤ PySem.Builtin.Str.strKind x := by
  unfold PySem.Builtin.Str.strKind
  split
  · exact Nat.le_refl _
  · split <;> decide
theorem split_join {sep : Str} {c i0 : Nat} (hs : Sep sep c i0) (hk : PySem.Builtin.Str.strKind sep = 1) (p : Str) (r : List Str) (hf : ∀ q ∈ p :: r, c ∉ q.cps.toList) : Txt.split (Txt.join sep (p :: r)) sep = p :: r := by
  have ej : Txt.join sep (p :: r) = Str.join sep (p :: r) := glued_eq_join sep (p :: r)
  rw [ej]
  obtain ⟨x, hx⟩ : ∃ x : Str, x = Str.join sep (p :: r) := ⟨_, rfl⟩
  rw [← hx]
  have hw : 1 ≤ sep.length := by
    have := (List.getElem?_eq_some_iff.mp hs.at').1
    rw [cps_len] at this; omega
  obtain ⟨f, hG, hn⟩ := occ_tight x sep hw
  have key := parts_join hs r p 0 _ f (Nat.zero_le _) (by rw [List.drop_zero, hx]) hf hG hn
  have k1 := kind1 x
  unfold Txt.split
  by_cases q : (decide (x.length < sep.length) || decide (PySem.Builtin.Str.strKind x < PySem.Builtin.Str.strKind sep)) = true
  · rw [if_pos q]
    have hl : x.length < sep.length := by
      rw [Bool.or_eq_true, decide_eq_true_eq, decide_eq_true_eq, hk] at q
      omega
    cases r with
    | nil => rw [hx]; rfl
    | cons y r =>
      have := congrArg List.length (jn_cons sep p y r)
      rw [cps_len, ← hx] at this
      simp only [List.length_append, cps_len] at this
      omega
  · rw [if_neg q]
    by_cases e : (occurrences x sep 0 x.length (x.length + 1)).isEmpty = true
    · rw [if_pos e]
      rw [List.isEmpty_iff.mp e] at key
      have key : [strSub x 0 x.length] = p :: r := key
      rw [sub_whole] at key
      exact key
    · rw [if_neg e, partsBetween_eq]
      exact key
theorem join_split' (x y : Str) : Txt.join y (Txt.split x y) = x := (glued_eq_join y _).trans (join_split x y)
theorem mem_join {c : Nat} (sep : Str) : ∀ (ps : List Str), c ∈ (Txt.join sep ps).cps.toList → c ∈ sep.cps.toList ∨ ∃ p ∈ ps, c ∈ p.cps.toList := by
  intro ps h
  have ej : Txt.join sep ps = Str.join sep ps := glued_eq_join sep ps
  rw [ej] at h
  clear ej
  induction ps with
  | nil => simp [Str.join, Str.empty] at h
  | cons p r ih =>
    cases r with
    | nil => exact Or.inr ⟨p, by simp, h⟩
    | cons q r =>
      rw [jn_cons] at h
      rcases List.mem_append.mp h with h | h
      · exact Or.inr ⟨p, by simp, h⟩
      · rcases List.mem_append.mp h with h | h
        · exact Or.inl h
        · rcases ih h with z | ⟨y, hy, z⟩
          · exact Or.inl z
          · exact Or.inr ⟨y, by simp at hy ⊢; right; exact hy, z⟩
theorem sp1 : Sep " " 32 0 := ⟨by decide +kernel, fun k h => by omega⟩
theorem sp2 : Sep ", " 44 0 := ⟨by decide +kernel, fun k h => by omega⟩
theorem sp3 : Sep " | " 124 1 := ⟨by decide +kernel, fun k h => by
  obtain rfl : k = 0 := by omega
  decide +kernel⟩
theorem kd1 : PySem.Builtin.Str.strKind " " = 1 := by decide +kernel
theorem kd2 : PySem.Builtin.Str.strKind ", " = 1 := by decide +kernel
theorem kd3 : PySem.Builtin.Str.strKind " | " = 1 := by decide +kernel
end Lw
end

section
set_option maxRecDepth 100000
set_option maxHeartbeats 1000000
namespace Lw
open PySem PySem.Spec L2 Mi
/-! ### numbers that words write -/
def figs : Str := "0123456789"
def digs : List Nat := [48, 49, 50, 51, 52, 53, 54, 55, 56, 57]
theorem figs_eq : figs.cps.toList = digs := by decide +kernel
def isNum (w : Str) : Bool := !(w == "") && decide (w.length ≤ 3) && w.cps.toList.all (fun c => decide (c ∈ digs))
def nP (w : Str) : Option Nat := if isNum w = true then (match intText? w with
  | some n => if w == iT n then some n.toNat else none
  | none => none) else none
def allL : List (List Nat) := digs.map (fun a => [a]) ++ digs.flatMap (fun a => digs.map fun b => [a, b]) ++ digs.flatMap fun a => digs.flatMap fun b => digs.map fun c => [a, b, c]
theorem allL_ok : (allL.all fun l => match intText? ⟨l.toArray⟩ with
  | some n => decide (0 ≤ n ∧ n < 1000)
  | none => false) = true := by decide +kernel
theorem num_all {w : Str} (h : isNum w = true) : ∃ n : Nat, intText? w = some (n : Int) ∧ n < 1000 := by
  unfold isNum at h
  rw [Bool.and_eq_true, Bool.and_eq_true, List.all_eq_true, decide_eq_true_eq] at h
  obtain ⟨⟨h1, h2⟩, h3⟩ := h
  have hw : w = ⟨w.cps.toList.toArray⟩ := by cases w; simp
  have hl : w.cps.toList.length ≤ 3 := by rw [cps_len]; exact h2
  have h3 : ∀ c ∈ w.cps.toList, c ∈ digs := fun c hc => of_decide_eq_true (h3 c hc)
  have hm : w.cps.toList ∈ allL := by
    unfold allL
    generalize w.cps.toList = l at *
    match l with
    | [] =>
      have e : (w == "") = true := by rw [hw]; rfl
      rw [e] at h1; cases h1
    | [a] => simp only [List.mem_append, List.mem_map, List.mem_flatMap]; exact Or.inl (Or.inl ⟨a, h3 a (by simp), rfl⟩)
    | [a, b] => simp only [List.mem_append, List.mem_map, List.mem_flatMap]; exact Or.inl (Or.inr ⟨a, h3 a (by simp), b, h3 b (by simp), rfl⟩)
    | [a, b, c] => simp only [List.mem_append, List.mem_map, List.mem_flatMap]; exact Or.inr ⟨a, h3 a (by simp), b, h3 b (by simp), c, h3 c (by simp), rfl⟩
    | a :: b :: c :: d :: r => simp at hl
  have := List.all_eq_true.mp allL_ok _ hm
  rw [← hw] at this
  split at this
  · rename_i n e
    have q := of_decide_eq_true this
    exact ⟨n.toNat, by rw [e, Int.toNat_of_nonneg q.1], by omega⟩
  · cases this
theorem nP_some {w : Str} {k : Nat} (h : nP w = some k) : w = iT k ∧ k < 1000 := by
  unfold nP at h
  split at h
  · rename_i hn
    obtain ⟨n, e, hl⟩ := num_all hn
    rw [e] at h
    simp only at h
    split at h
    · rename_i q
      have : n = k := by simpa using h
      subst this
      exact ⟨eq_of_beq q, hl⟩
    · cases h
  · cases h
theorem iT_chk : ((List.range 1000).all fun k => decide (nP (iT (k : Nat)) = some k) && (iT (k : Nat)).cps.toList.all (fun c => decide (c ∈ digs))) = true := by decide +kernel
theorem nP_iT {k : Nat} (h : k < 1000) : nP (iT k) = some k := by
  have := List.all_eq_true.mp iT_chk k (List.mem_range.mpr h)
  rw [Bool.and_eq_true] at this
  exact of_decide_eq_true this.1
theorem iT_dig {k : Nat} (h : k < 1000) : ∀ c ∈ (iT k).cps.toList, c ∈ digs := fun c hc => by
  have := List.all_eq_true.mp iT_chk k (List.mem_range.mpr h)
  rw [Bool.and_eq_true] at this
  exact of_decide_eq_true (List.all_eq_true.mp this.2 c hc)
def oD : Option Nat → D
  | none => .none
  | some k => .int k
theorem c_number_in (n : Nat) (w : Str) (hw : w.length ≤ 900000) (st : Sto) (ok : Okk st) : Fs (n + 1) i_number_in [.d (.str w)] st = .ok (.d (oD (nP w))) st := by
  have sm : small w.length = true := small_le _ (by omega)
  have bl : bLenS [.d (.str w)] st = some (.d (.int (w.length : Nat)), st) := if_pos sm
  have it : ∀ env : Ev, env[0]? = some (some (.d (.str w))) → iTxt (eVar 0) env st = .ok (w.cps.toList.map fun c => PyData.str ⟨#[c]⟩) st := fun env h => by
    unfold iTxt
    rw [eVar_eq, h]
    rfl
  have sm2 : small (w.cps.toList.map fun c => PyData.str ⟨#[c]⟩).length = true := small_le _ (by rw [List.length_map, cps_len]; omega)
  have c1 := compL_mp (st := st) (tg := .nm 1) (tt := kYes) (ee := eOp vInSg (eVar 1) (eC (.str figs))) (env := [some (.d (.str w)), none]) (fun c : Nat => PyData.str ⟨#[c]⟩) (fun c => PyData.bool (decide (c ∈ digs))) w.cps.toList (fun c _ => ⟨_, rfl, rfl, by
    have vi : vInSg (.d (.str ⟨#[c]⟩)) (.d (.str figs)) st = some (.d (.bool (decide (c ∈ figs.cps.toList))), st) := rfl
    rw [figs_eq] at vi
    simp! only [ssE_ok, vi]⟩)
  have ba := bAll_mp (fun c : Nat => decide (c ∈ digs)) w.cps.toList st
  have it0 := it [some (.d (.str w)), none] rfl
  have fg : (PyData.str "0123456789") = .str figs := rfl
  rw [e_number_in]
  by_cases h1 : (w == "") = true
  · have e : nP w = none := by unfold nP isNum; rw [h1]; rfl
    rw [e]
    simp! only [ssE_ok, m_number_in, wEq, h1, fin_d st ok]
    rfl
  · have h1 : (w == "") = false := by simpa using h1
    by_cases h2 : w.length ≤ 3
    · have d2 : decide ((w.length : Int) > 3) = false := decide_eq_false (by omega)
      by_cases h3 : w.cps.toList.all (fun c => decide (c ∈ digs)) = true
      · have hn : isNum w = true := by unfold isNum; rw [h1, h3, decide_eq_true h2]; rfl
        obtain ⟨k, e, hk⟩ := num_all hn
        have bi : bIntS [.d (.str w)] st = some (.d (.int k), st) := by
          simp only [bIntS, e]
          rw [if_pos (by omega)]
        have si := strI_ok (i := (k : Int)) (by omega) (by omega) st
        have ve : vNe (.d (.str w)) (.d (.str (iT k))) st = some (.d (.bool (!(w == iT k))), st) := by simp only [vNe, datOf, fits_str, if_true, eqv_str]
        rw [h3] at ba
        have np : nP w = if w == iT k then some k else none := by
          unfold nP
          rw [if_pos hn, e]
          simp only [Int.toNat_natCast]
        cases q : w == iT k with
        | true =>
          rw [q] at ve np
          rw [np]
          simp! only [ssE_ok, m_number_in, wEq, h1, bl, d2, fg, it0, sm2, c1, ba, bi, si, ve, Bool.not_true, fin_d st ok]
          rfl
        | false =>
          rw [q] at ve np
          rw [np]
          simp! only [ssE_ok, m_number_in, wEq, h1, bl, d2, fg, it0, sm2, c1, ba, bi, si, ve, Bool.not_false, fin_d st ok]
          rfl
      · have h3 : w.cps.toList.all (fun c => decide (c ∈ digs)) = false := by simpa using h3
        have e : nP w = none := by unfold nP isNum; rw [h1, h3, Bool.and_false]; rfl
        rw [h3] at ba
        rw [e]
        simp! only [ssE_ok, m_number_in, wEq, h1, bl, d2, fg, it0, sm2, c1, ba, fin_d st ok]
        rfl
    · have d2 : decide ((w.length : Int) > 3) = true := decide_eq_true (by omega)
      have e : nP w = none := by unfold nP isNum; rw [decide_eq_false h2, Bool.and_false, Bool.false_and]; rfl
      rw [e]
      simp! only [ssE_ok, m_number_in, wEq, h1, bl, d2, fin_d st ok]
      rfl
end Lw
end

section
set_option maxRecDepth 100000
set_option maxHeartbeats 1000000
namespace Lw
open PySem PySem.Spec L2 Mi
/-! ### texts read, plainly -/
abbrev ON := List (Option Nat)
def onD (x : ON) : D := .tuple (x.map oD)
def rwD (r : List ON) : D := .tuple (r.map onD)
def vals (x : ON) : List Int := x.map fun o => ((o.getD 0 : Nat) : Int)
def onOf (xs : List Int) : ON := xs.map fun x => some x.toNat
def nsF (f : Str → Option Nat) (t : Str) : ON := if (t == "-") = true then [] else (Txt.split t " ").map f
def rwF (f : Str → Option Nat) (t : Str) : List ON := (Txt.split t ", ").map (nsF f)
structure Rdr (f : Str → Option Nat) (B : Nat) : Prop where
  of : ∀ {k : Nat}, k < B → f (iT k) = some k
  is : ∀ {w : Str} {k : Nat}, f w = some k → w = iT k ∧ k < B
  le : B ≤ 1000
theorem rdr_P : Rdr nP 1000 := ⟨nP_iT, nP_some, Nat.le_refl _⟩
theorem iT_no {k : Nat} (h : k < 1000) {c : Nat} (hc : c ∉ digs) : c ∉ (iT k).cps.toList := fun q => hc (iT_dig h c q)
theorem iTi_no {x : Int} (h0 : 0 ≤ x) (h : x < 1000) {c : Nat} (hc : c ∉ digs) : c ∉ (iT x).cps.toList := by
  have := iT_no (k := x.toNat) (by omega) hc
  rwa [Int.toNat_of_nonneg h0] at this
theorem numT_no {xs : List Int} (h : ∀ x ∈ xs, 0 ≤ x ∧ x < 1000) {c : Nat} (hc : c ∉ digs) (h1 : c ≠ 45) (h2 : c ≠ 32) : c ∉ (numT xs).cps.toList := by
  unfold numT
  split
  · have : ("-" : Str).cps.toList = [45] := by decide +kernel
    rw [this]; simpa using h1
  · intro q
    rcases mem_join " " _ q with q | ⟨p, hp, q⟩
    · have : (" " : Str).cps.toList = [32] := by decide +kernel
      rw [this] at q
      exact h2 (by simpa using q)
    · obtain ⟨x, hx, rfl⟩ := List.mem_map.mp hp
      exact iTi_no (h x hx).1 (h x hx).2 hc q
theorem rowT_no {rows : List (List Int)} (h : ∀ xs ∈ rows, ∀ x ∈ xs, 0 ≤ x ∧ x < 1000) {c : Nat} (hc : c ∉ digs) (h1 : c ≠ 45) (h2 : c ≠ 32) (h3 : c ≠ 44) : c ∉ (rowT rows).cps.toList := by
  intro q
  rcases mem_join ", " _ q with q | ⟨p, hp, q⟩
  · have : (", " : Str).cps.toList = [44, 32] := by decide +kernel
    rw [this] at q
    simp at q
    omega
  · obtain ⟨xs, hx, rfl⟩ := List.mem_map.mp hp
    exact numT_no (h xs hx) hc h1 h2 q
theorem dash_chk : ("-" : Str).cps.toList = [45] := by decide +kernel
theorem split_ne (x y : Str) : Txt.split x y ≠ [] := fun e => by
  unfold Txt.split at e
  split at e
  · cases e
  · split at e
    · cases e
    · rw [PySem.StrLaws.partsBetween_eq] at e
      obtain ⟨p, r, h⟩ := PySem.StrLaws.partsFrom_ne x y.length 0 (PySem.Builtin.Str.occurrences x y 0 x.length (x.length + 1))
      rw [h] at e; cases e
theorem numT_ne {xs : List Int} (h : ∀ x ∈ xs, 0 ≤ x ∧ x < 1000) (hx : xs ≠ []) : (numT xs == "-") = false := by
  unfold numT
  rw [if_neg hx]
  cases e : (Txt.join " " (xs.map iT) == "-") with
  | false => rfl
  | true =>
    have e := eq_of_beq e
    have q : (45 : Nat) ∈ (Txt.join " " (xs.map iT)).cps.toList := by rw [e, dash_chk]; simp
    rcases mem_join " " _ q with q | ⟨p, hp, q⟩
    · have : (" " : Str).cps.toList = [32] := by decide +kernel
      rw [this] at q; simp at q
    · obtain ⟨x, hx2, rfl⟩ := List.mem_map.mp hp
      exact absurd q (iTi_no (h x hx2).1 (h x hx2).2 (by decide))
section
variable {f : Str → Option Nat} {B : Nat} (R : Rdr f B)
include R
theorem ns_of {xs : List Int} (h : ∀ x ∈ xs, 0 ≤ x ∧ x < (B : Int)) : nsF f (numT xs) = onOf xs := by
  have hB := R.le
  have h2 : ∀ x ∈ xs, 0 ≤ x ∧ x < 1000 := fun x hx => ⟨(h x hx).1, by have := (h x hx).2; omega⟩
  unfold nsF
  cases xs with
  | nil => rw [if_pos (by decide +kernel)]; rfl
  | cons x r =>
    rw [numT_ne h2 (by simp), if_neg (by decide)]
    unfold numT
    rw [if_neg (by simp), List.map_cons, split_join sp1 kd1 (iT x) (r.map iT) (fun q hq => by
      rw [← List.map_cons] at hq
      obtain ⟨y, hy, rfl⟩ := List.mem_map.mp hq
      exact iTi_no (h2 y hy).1 (h2 y hy).2 (by decide)), ← List.map_cons, List.map_map]
    unfold onOf
    refine List.map_congr_left fun y hy => ?_
    have := R.of (k := y.toNat) (by have := h y hy; omega)
    rwa [Int.toNat_of_nonneg (h y hy).1] at this
theorem ns_is {t : Str} (h : (nsF f t).all Option.isSome = true) : t = numT (vals (nsF f t)) ∧ ∀ x ∈ vals (nsF f t), 0 ≤ x ∧ x < (B : Int) := by
  unfold nsF at h ⊢
  by_cases q : (t == "-") = true
  · rw [if_pos q]
    exact ⟨eq_of_beq q, fun x hx => by cases hx⟩
  · rw [if_neg q] at h ⊢
    have hs : ∀ w ∈ Txt.split t " ", ∃ k, f w = some k ∧ w = iT k ∧ k < B := fun w hw => by
      have := List.all_eq_true.mp h (f w) (List.mem_map.mpr ⟨w, hw, rfl⟩)
      obtain ⟨k, hk⟩ := Option.isSome_iff_exists.mp this
      exact ⟨k, hk, R.is hk⟩
    have hv : (vals ((Txt.split t " ").map f)).map iT = Txt.split t " " := by
      unfold vals
      rw [List.map_map, List.map_map]
      conv => rhs; rw [← List.map_id (Txt.split t " ")]
      refine List.map_congr_left fun w hw => ?_
      obtain ⟨k, e, e2, _⟩ := hs w hw
      show iT ((((f w).getD 0 : Nat)) : Int) = w
      rw [e]; exact e2.symm
    refine ⟨?_, fun x hx => ?_⟩
    · unfold numT
      rw [if_neg (fun e => by
        rw [e] at hv
        have hp := split_ne t " "
        rw [← hv] at hp
        exact hp rfl), hv, join_split']
    · unfold vals at hx
      rw [List.map_map] at hx
      obtain ⟨w, hw, rfl⟩ := List.mem_map.mp hx
      obtain ⟨k, e, _, hk⟩ := hs w hw
      show 0 ≤ (((f w).getD 0 : Nat) : Int) ∧ (((f w).getD 0 : Nat) : Int) < B
      rw [e]
      show 0 ≤ (k : Int) ∧ (k : Int) < B
      omega
theorem rw_of {rows : List (List Int)} (hr : rows ≠ []) (h : ∀ xs ∈ rows, ∀ x ∈ xs, 0 ≤ x ∧ x < (B : Int)) : rwF f (rowT rows) = rows.map onOf := by
  have hB := R.le
  have h2 : ∀ xs ∈ rows, ∀ x ∈ xs, 0 ≤ x ∧ x < 1000 := fun xs hxs x hx => ⟨(h xs hxs x hx).1, by have := (h xs hxs x hx).2; omega⟩
  unfold rwF rowT
  cases rows with
  | nil => exact absurd rfl hr
  | cons y r =>
    rw [List.map_cons, split_join sp2 kd2 (numT y) (r.map numT) (fun q hq => by
      rw [← List.map_cons] at hq
      obtain ⟨z, hz, rfl⟩ := List.mem_map.mp hq
      exact numT_no (h2 z hz) (by decide) (by decide) (by decide)), ← List.map_cons, List.map_map]
    exact List.map_congr_left fun z hz => ns_of R (h z hz)
theorem rw_is {t : Str} (h : ∀ x ∈ rwF f t, x.all Option.isSome = true) : t = rowT ((rwF f t).map vals) ∧ ∀ xs ∈ (rwF f t).map vals, ∀ x ∈ xs, 0 ≤ x ∧ x < (B : Int) := by
  unfold rwF at h ⊢
  have hs : ∀ w ∈ Txt.split t ", ", (nsF f w).all Option.isSome = true := fun w hw => h _ (List.mem_map.mpr ⟨w, hw, rfl⟩)
  refine ⟨?_, fun xs hx => ?_⟩
  · unfold rowT
    rw [List.map_map, List.map_map]
    have : (Txt.split t ", ").map ((numT ∘ vals) ∘ nsF f) = Txt.split t ", " := by
      conv => rhs; rw [← List.map_id (Txt.split t ", ")]
      exact List.map_congr_left fun w hw => (ns_is R (hs w hw)).1.symm
    rw [this, join_split']
  · rw [List.map_map] at hx
    obtain ⟨w, hw, rfl⟩ := List.mem_map.mp hx
    exact (ns_is R (hs w hw)).2
end
end Lw
end

section
set_option maxRecDepth 100000
set_option maxHeartbeats 1000000
namespace Lw
open PySem PySem.Spec L2 Mi
/-! ### is_case of what was read -/
def areN (many : Int) (x : ON) : Bool := x.all Option.isSome && numsOk many (vals x)
theorem onD_vals {x : ON} (h : x.all Option.isSome = true) : onD x = numsD (vals x) := by
  unfold onD numsD vals
  rw [List.map_map]
  congr 1
  refine List.map_congr_left fun o ho => ?_
  have := List.all_eq_true.mp h o ho
  cases o with
  | none => cases this
  | some k => rfl
theorem oD_nd (o : Option Nat) : noDict (oD o) := by cases o <;> trivial
theorem c_are_numO (n : Nat) (x : ON) (many : Int) (st : Sto) (h : Okk st) (hl : x.length ≤ 1000000) : Fs (n + 2) i_are_numbers [.d (onD x), .d (.int many)] st = .ok (.d (.bool (areN many x))) st := by
  unfold areN
  by_cases q : x.all Option.isSome = true
  · rw [q, onD_vals q, Bool.true_and]
    exact c_are_numbers n (vals x) many st h (by unfold vals; rw [List.length_map]; exact hl)
  · have q' : x.all Option.isSome = false := by simpa using q
    rw [q', Bool.false_and]
    have c1 := compL_mp (st := st) (tg := .nm 2) (tt := kYes) (ee := eCl 3 (Fs (n + 1) i_is_whole) (aCons (eVar 2) (aCons (eC (.int 0)) (aCons (eOp (pur2 (dI iSub)) (eVar 1) (eC (.int 1))) aNil)))) (env := [some (.d (onD x)), some (.d (.int many)), none, none]) oD (fun o => .bool (isWhole (oD o) 0 (many - 1))) x (fun o _ => ⟨_, rfl, rfl, by
      have w := c_is_whole n (oD o) 0 (many - 1) st h (oD_nd o)
      simp! only [ssE_ok, w]⟩)
    have ba := bAll_mp (fun o : Option Nat => isWhole (oD o) 0 (many - 1)) x st
    have bf : (x.all fun o => isWhole (oD o) 0 (many - 1)) = false := by
      cases e : (x.all fun o => isWhole (oD o) 0 (many - 1)) with
      | false => rfl
      | true =>
        refine absurd (List.all_eq_true.mpr fun o ho => ?_) q
        have := List.all_eq_true.mp e o ho
        cases o with
        | none => cases this
        | some k => rfl
    rw [bf] at ba
    have sm : small (x.map oD).length = true := small_le _ (by rw [List.length_map]; exact hl)
    have ty : tyOf (.d (onD x)) st = some "tuple" := rfl
    have sq : (R.ok (.d (onD x)) st).seqI = .ok (x.map oD) st := rfl
    rw [e_are_numbers]
    simp! only [ssE_ok, m_are_numbers, ty, sq, sm, c1, ba, fin_d st h]
def areV (minds many : Nat) (vs : List (List ON)) : Bool := decide (vs.length = minds) && (vs.all (fun own => decide (own.length = many)) && vs.flatten.all (areN many))
theorem eq_nat (a b : Nat) (st : Sto) : vEq (.d (.int (a : Nat))) (.d (.int (b : Nat))) st = some (.d (.bool (decide (a = b))), st) := by
  have : PyData.eqv (.int (a : Int)) (.int (b : Int)) = decide (a = b) := by
    show decide ((a : Int) = b) = _
    rw [decide_eq_decide]; omega
  simp only [vEq, datOf, fits_int, this, if_true]
theorem ne_nat (a b : Nat) (st : Sto) : vNe (.d (.int (a : Nat))) (.d (.int (b : Nat))) st = some (.d (.bool (!decide (a = b))), st) := by
  have : PyData.eqv (.int (a : Int)) (.int (b : Int)) = decide (a = b) := by
    show decide ((a : Int) = b) = _
    rw [decide_eq_decide]; omega
  simp only [vNe, datOf, fits_int, this, if_true]
def vwD (vs : List (List ON)) : D := .tuple (vs.map rwD)
theorem c_are_viewO (n : Nat) (vs : List (List ON)) (minds many : Nat) (st : Sto) (h : Okk st) (h0 : minds ≤ 1000) (h01 : many ≤ 1000) (h2 : vs.length ≤ 1000000) (h4 : ∀ own ∈ vs, ∀ x ∈ own, x.length ≤ 1000000) : Fs (n + 3) i_are_views [.d (vwD vs), .d (.int minds), .d (.int many)] st = .ok (.d (.bool (areV minds many vs))) st := by
  have ty : tyOf (.d (vwD vs)) st = some "tuple" := rfl
  have tr : ∀ r : List ON, tyOf (.d (rwD r)) st = some "tuple" := fun _ => rfl
  have bl : bLen [.d (vwD vs)] st = some (.d (.int (vs.length : Nat)), st) := by simp only [vwD, bLen, lenOf, sqOf, lsOf, Option.map_some, List.length_map]
  have br : ∀ r : List ON, bLen [.d (rwD r)] st = some (.d (.int (r.length : Nat)), st) := fun r => by simp only [rwD, bLen, lenOf, sqOf, lsOf, Option.map_some, List.length_map]
  have sq : (R.ok (.d (vwD vs)) st).seqI = .ok (vs.map rwD) st := rfl
  have sr : ∀ r : List ON, (R.ok (.d (rwD r)) st).seqI = .ok (r.map onD) st := fun _ => rfl
  have sm : small (vs.map rwD).length = true := small_le _ (by rw [List.length_map]; exact h2)
  have c1 := compL_mp (st := st) (tg := .nm 3) (tt := kYes) (ee := eAnd (eIsi "tuple" (eVar 3)) (eOp vEq (eCB bLen (aCons (eVar 3) aNil)) (eVar 2))) (env := [some (.d (vwD vs)), some (.d (.int minds)), some (.d (.int many)), none, none]) rwD (fun own => .bool (decide (own.length = many))) vs (fun own _ => ⟨_, rfl, rfl, by
    simp! only [ssE_ok, tr, br, eq_nat]⟩)
  have b1 := bAll_mp (fun own : List ON => decide (own.length = many)) vs st
  rw [e_are_views]
  unfold areV
  by_cases q1 : vs.length = minds
  · have ne : vNe (.d (.int (vs.length : Nat))) (.d (.int minds)) st = some (.d (.bool false), st) := by rw [ne_nat, decide_eq_true q1]; rfl
    rw [decide_eq_true q1, Bool.true_and]
    by_cases q2 : (vs.all fun own => decide (own.length = many)) = true
    · rw [q2] at b1 ⊢
      rw [Bool.true_and]
      have hl : ∀ own ∈ vs, own.length = many := fun own ho => of_decide_eq_true (List.all_eq_true.mp q2 own ho)
      have c2 := compL2_mp (st := st) (tg := .nm 3) (tt := kYes) (tg1 := .nm 4) (ei1 := iSeq (eVar 3)) (tt1 := kYes) (vs1 := [4]) (ee := eCl 2 (Fs (n + 2) i_are_numbers) (aCons (eVar 4) (aCons (eVar 2) aNil))) (env := [some (.d (vwD vs)), some (.d (.int minds)), some (.d (.int many)), none, none]) rwD (fun own => own.map fun x => .bool (areN many x)) vs (by
        intro own ho
        refine ⟨_, own.map onD, rfl, rfl, rfl, ?_⟩
        refine compL_mp onD (fun x => .bool (areN many x)) own fun x hx => ⟨_, rfl, rfl, ?_⟩
        have := c_are_numO n x many st h (h4 own ho x hx)
        simp! only [ssE_ok, wipeE, this])
      have b2 := bAll_mp (areN (many : Nat)) vs.flatten st
      have fl : (vs.flatMap fun own => own.map fun x => PyData.bool (areN many x)) = vs.flatten.map fun x => PyData.bool (areN many x) := by simp [List.flatMap, List.map_flatten]
      rw [fl] at c2
      have s1 : small (vs.flatten.map fun x => PyData.bool (areN many x)).length = true := small_le _ (by
        rw [List.length_map, List.length_flatten]
        have : ∀ l : List (List ON), (∀ own ∈ l, own.length = many) → (l.map List.length).sum = l.length * many := by
          intro l hl
          induction l with
          | nil => simp
          | cons a l ih =>
            rw [List.map_cons, List.sum_cons, ih fun own ho => hl own (List.mem_cons_of_mem _ ho), hl a List.mem_cons_self, List.length_cons, Nat.add_mul, Nat.one_mul, Nat.add_comm]
        rw [this vs hl, q1]
        calc minds * many ≤ 1000 * 1000 := Nat.mul_le_mul h0 h01
          _ = 1000000 := rfl)
      simp! only [ssE_ok, m_are_views, ty, bl, ne, sq, sm, c1, b1, c2, s1, b2, fin_d st h]
    · have q2 : (vs.all fun own => decide (own.length = many)) = false := by simpa using q2
      rw [q2] at b1 ⊢
      rw [Bool.false_and]
      simp! only [ssE_ok, m_are_views, ty, bl, ne, sq, sm, c1, b1, fin_d st h]
  · have ne : vNe (.d (.int (vs.length : Nat))) (.d (.int minds)) st = some (.d (.bool true), st) := by rw [ne_nat, decide_eq_false q1]; rfl
    rw [decide_eq_false q1, Bool.false_and]
    simp! only [ssE_ok, m_are_views, ty, bl, ne, fin_d st h]
structure Got where
  a0 : Option Nat
  a1 : Option Nat
  rows : List ON
  vs : List (List ON)
  last : Option Nat
def Got.m (g : Got) : D := .tuple [oD g.a0, oD g.a1, rwD g.rows, vwD g.vs]
def Got.d (g : Got) : D := .tuple [g.m, oD g.last]
def isM (g : Got) : Bool := isWhole (oD g.a0) 1 3 && (isWhole (oD g.a1) 1 4 && (decide (1 ≤ g.rows.length ∧ g.rows.length ≤ 200) && (g.rows.all (areN (g.a1.getD 0 : Nat)) && areV (g.a0.getD 0) g.rows.length g.vs)))
def isC (g : Got) : Bool := isM g && isWhole (oD g.last) 0 ((g.rows.length : Int) - 1)
structure Got.Sm (g : Got) : Prop where
  r : g.rows.length ≤ 1000000
  r2 : ∀ x ∈ g.rows, x.length ≤ 1000000
  v : g.vs.length ≤ 1000000
  v2 : ∀ own ∈ g.vs, ∀ x ∈ own, x.length ≤ 1000000
theorem wh_some {o : Option Nat} {lo hi : Int} (h : isWhole (oD o) lo hi = true) : ∃ k : Nat, o = some k ∧ lo ≤ k ∧ (k : Int) ≤ hi := by
  cases o with
  | none => cases h
  | some k =>
    have h : (decide (lo ≤ (k : Int)) && decide ((k : Int) ≤ hi)) = true := h
    rw [Bool.and_eq_true, decide_eq_true_eq, decide_eq_true_eq] at h
    exact ⟨k, rfl, h.1, h.2⟩
theorem c_is_modelO (n : Nat) (g : Got) (sg : g.Sm) (st : Sto) (h : Okk st) : Fs (n + 4) i_is_model [.d g.m] st = .ok (.d (.bool (isM g))) st := by
  have w1 := c_is_whole (n + 2) (oD g.a0) 1 3 st h (oD_nd _)
  have w2 := c_is_whole (n + 2) (oD g.a1) 1 4 st h (oD_nd _)
  have ty1 : tyOf (.d g.m) st = some "tuple" := rfl
  have ty2 : tyOf (.d (rwD g.rows)) st = some "tuple" := rfl
  have l4 : bLen [.d g.m] st = some (.d (.int 4), st) := rfl
  have n4 : vNe (.d (.int 4)) (.d (.int 4)) st = some (.d (.bool false), st) := rfl
  have m0 : vIx (.d g.m) (.d (.int 0)) st = some (.d (oD g.a0), st) := rfl
  have m1 : vIx (.d g.m) (.d (.int 1)) st = some (.d (oD g.a1), st) := rfl
  have m2 : vIx (.d g.m) (.d (.int 2)) st = some (.d (rwD g.rows), st) := rfl
  have m3 : vIx (.d g.m) (.d (.int 3)) st = some (.d (vwD g.vs), st) := rfl
  have l1 : bLen [.d (rwD g.rows)] st = some (.d (.int (g.rows.length : Nat)), st) := by simp only [rwD, bLen, lenOf, sqOf, lsOf, Option.map_some, List.length_map]
  rw [e_is_model]
  unfold isM
  by_cases q0 : isWhole (oD g.a0) 1 3 = true
  · obtain ⟨k0, e0, a0, b0⟩ := wh_some q0
    rw [q0] at w1 ⊢
    rw [Bool.true_and]
    by_cases q1 : isWhole (oD g.a1) 1 4 = true
    · obtain ⟨k1, e1, a1, b1⟩ := wh_some q1
      rw [q1] at w2 ⊢
      rw [Bool.true_and]
      by_cases q2 : 1 ≤ g.rows.length ∧ g.rows.length ≤ 200
      · rw [decide_eq_true q2, Bool.true_and]
        have c1 : decide ((1 : Int) ≤ (g.rows.length : Int)) = true := decide_eq_true (by omega)
        have c2 : decide ((g.rows.length : Int) ≤ 200) = true := decide_eq_true (by omega)
        have gg := compL_mp (st := st) (tg := .nm 2) (tt := kYes) (ee := eCl 2 (Fs (n + 3) i_are_numbers) (aCons (eVar 2) (aCons (eOp vIx (eVar 0) (eC (.int 1))) aNil))) (env := [some (.d g.m), some (.d (rwD g.rows)), none]) onD (fun x => .bool (areN (g.a1.getD 0 : Nat) x)) g.rows (fun x hx => ⟨_, rfl, rfl, by
          have := c_are_numO (n + 1) x (g.a1.getD 0 : Nat) st h (sg.r2 x hx)
          have o1 : oD g.a1 = .int (g.a1.getD 0 : Nat) := by rw [e1]; rfl
          simp! only [ssE_ok, m1, o1, this]⟩)
        have ba := bAll_mp (areN (g.a1.getD 0 : Nat)) g.rows st
        have sq : (R.ok (.d (rwD g.rows)) st).seqI = .ok (g.rows.map onD) st := rfl
        have s1 : small (g.rows.map onD).length = true := small_le _ (by rw [List.length_map]; omega)
        have v := c_are_viewO n g.vs (g.a0.getD 0) g.rows.length st h (by rw [e0]; show k0 ≤ 1000; omega) (by omega) sg.v sg.v2
        have o0 : oD g.a0 = .int (g.a0.getD 0 : Nat) := by rw [e0]; rfl
        rw [o0] at w1 m0
        cases q3 : g.rows.all (areN (g.a1.getD 0 : Nat)) with
        | true =>
          rw [q3] at ba
          rw [Bool.true_and]
          simp! only [ssE_ok, m_is_model, ty1, ty2, l4, n4, m0, m1, w1, w2, m2, m3, l1, c1, c2, s1, sq, gg, ba, v, fin_d st h]
        | false =>
          rw [q3] at ba
          rw [Bool.false_and]
          simp! only [ssE_ok, m_is_model, ty1, ty2, l4, n4, m0, m1, w1, w2, m2, m3, l1, c1, c2, s1, sq, gg, ba, v, fin_d st h]
      · rw [decide_eq_false q2, Bool.false_and]
        by_cases z : 1 ≤ g.rows.length
        · have c1 : decide ((1 : Int) ≤ (g.rows.length : Int)) = true := decide_eq_true (by omega)
          have c2 : decide ((g.rows.length : Int) ≤ 200) = false := decide_eq_false (by omega)
          simp! only [ssE_ok, m_is_model, ty1, ty2, l4, n4, m0, m1, w1, w2, m2, l1, c1, c2, fin_d st h]
        · have c1 : decide ((1 : Int) ≤ (g.rows.length : Int)) = false := decide_eq_false (by omega)
          simp! only [ssE_ok, m_is_model, ty1, ty2, l4, n4, m0, m1, w1, w2, m2, l1, c1, fin_d st h]
    · have q1 : isWhole (oD g.a1) 1 4 = false := by simpa using q1
      rw [q1] at w2 ⊢
      rw [Bool.false_and]
      simp! only [ssE_ok, m_is_model, ty1, l4, n4, m0, m1, w1, w2, fin_d st h]
  · have q0 : isWhole (oD g.a0) 1 3 = false := by simpa using q0
    rw [q0] at w1 ⊢
    rw [Bool.false_and]
    simp! only [ssE_ok, m_is_model, ty1, l4, n4, m0, w1, fin_d st h]
theorem c_is_caseO (n : Nat) (g : Got) (sg : g.Sm) (st : Sto) (h : Okk st) : Fs (n + 5) i_is_case [.d g.d] st = .ok (.d (.bool (isC g))) st := by
  have im := c_is_modelO n g sg st h
  have w := c_is_whole (n + 3) (oD g.last) 0 ((g.rows.length : Int) - 1) st h (oD_nd _)
  have ty1 : tyOf (.d g.d) st = some "tuple" := rfl
  have l2 : bLen [.d g.d] st = some (.d (.int 2), st) := rfl
  have n2 : vNe (.d (.int 2)) (.d (.int 2)) st = some (.d (.bool false), st) := rfl
  have d0 : vIx (.d g.d) (.d (.int 0)) st = some (.d g.m, st) := rfl
  have d1 : vIx (.d g.d) (.d (.int 1)) st = some (.d (oD g.last), st) := rfl
  have m2 : vIx (.d g.m) (.d (.int 2)) st = some (.d (rwD g.rows), st) := rfl
  have l1 : bLen [.d (rwD g.rows)] st = some (.d (.int (g.rows.length : Nat)), st) := by simp only [rwD, bLen, lenOf, sqOf, lsOf, Option.map_some, List.length_map]
  rw [e_is_case]
  unfold isC
  cases q : isM g with
  | true =>
    rw [q] at im
    rw [Bool.true_and]
    simp! only [ssE_ok, m_is_case, ty1, l2, n2, d0, d1, im, m2, l1, w, fin_d st h]
  | false =>
    rw [q] at im
    rw [Bool.false_and]
    simp! only [ssE_ok, m_is_case, ty1, l2, n2, d0, im, fin_d st h]
end Lw
end

section
set_option maxRecDepth 100000
set_option maxHeartbeats 1000000
namespace Lw
open PySem PySem.Spec L2 Mi
/-! ### the case that a text writes, plainly -/
def toMo (g : Got) : Mo := ⟨g.a0.getD 0, g.a1.getD 0, g.rows.map vals, g.vs.map fun r => r.map vals⟩
def gotOf (M : Mo) (w : Nat) : Got := ⟨some M.minds, some M.facts, M.wor.map onOf, M.vie.map fun r => r.map onOf, some w⟩
theorem vals_onOf {xs : List Int} (h : ∀ x ∈ xs, 0 ≤ x) : vals (onOf xs) = xs := by
  unfold vals onOf
  rw [List.map_map]
  conv => rhs; rw [← List.map_id xs]
  refine List.map_congr_left fun x hx => ?_
  show ((x.toNat : Nat) : Int) = x
  exact Int.toNat_of_nonneg (h x hx)
theorem onOf_some (xs : List Int) : (onOf xs).all Option.isSome = true := by
  unfold onOf
  rw [List.all_map]
  exact List.all_eq_true.mpr fun x _ => rfl
theorem onD_of {xs : List Int} (h : ∀ x ∈ xs, 0 ≤ x) : onD (onOf xs) = numsD xs := by rw [onD_vals (onOf_some xs), vals_onOf h]
theorem areN_all {many : Int} {x : ON} (h : areN many x = true) : x.all Option.isSome = true ∧ numsOk many (vals x) = true := by
  unfold areN at h
  rw [Bool.and_eq_true] at h
  exact h
structure IsC (g : Got) : Prop where
  d : g.d = caD (toMo g) (g.last.getD 0)
  n : (toMo g).n = g.rows.length
  n1 : 1 ≤ (toMo g).n
  n2 : (toMo g).n ≤ 200
  w : g.last.getD 0 < (toMo g).n
  ok : (toMo g).n ≤ 120 → (toMo g).Ok
  rs : ∀ x ∈ g.rows, x.all Option.isSome = true
  vs : ∀ own ∈ g.vs, ∀ x ∈ own, x.all Option.isSome = true
  s0 : g.a0 = some (toMo g).minds
  s1 : g.a1 = some (toMo g).facts
  sl : g.last = some (g.last.getD 0)
  m : (toMo g).minds ≤ 3
  m1 : 1 ≤ (toMo g).minds
  f : (toMo g).facts ≤ 4
  vl : (toMo g).vie.length = (toMo g).minds
  ol : ∀ own ∈ (toMo g).vie, own.length = (toMo g).n
theorem isC_mo {g : Got} (h : isC g = true) : IsC g := by
  unfold isC isM at h
  simp only [Bool.and_eq_true, decide_eq_true_eq] at h
  obtain ⟨⟨h0, h1, ⟨h2, h3⟩, h4, h5⟩, h6⟩ := h
  obtain ⟨k0, e0, a0, b0⟩ := wh_some h0
  obtain ⟨k1, e1, a1, b1⟩ := wh_some h1
  obtain ⟨k2, e2, a2, b2⟩ := wh_some h6
  unfold areV at h5
  simp only [Bool.and_eq_true, decide_eq_true_eq] at h5
  obtain ⟨v1, v2, v3⟩ := h5
  have hr : ∀ x ∈ g.rows, x.all Option.isSome = true ∧ numsOk (g.a1.getD 0 : Nat) (vals x) = true := fun x hx => areN_all (List.all_eq_true.mp h4 x hx)
  have hv : ∀ own ∈ g.vs, own.length = g.rows.length ∧ ∀ x ∈ own, x.all Option.isSome = true ∧ numsOk (g.rows.length : Nat) (vals x) = true := fun own ho => ⟨of_decide_eq_true (List.all_eq_true.mp v2 own ho), fun x hx => areN_all (List.all_eq_true.mp v3 x (List.mem_flatten.mpr ⟨own, ho, hx⟩))⟩
  have en : (toMo g).n = g.rows.length := by show (g.rows.map vals).length = _; rw [List.length_map]
  have em : (toMo g).minds = k0 := by show g.a0.getD 0 = k0; rw [e0]; rfl
  have ef : (toMo g).facts = k1 := by show g.a1.getD 0 = k1; rw [e1]; rfl
  have el : g.last.getD 0 = k2 := by rw [e2]; rfl
  have vl : (toMo g).vie.length = (toMo g).minds := by show (g.vs.map _).length = g.a0.getD 0; rw [List.length_map]; exact v1
  have ol : ∀ own ∈ (toMo g).vie, own.length = (toMo g).n := fun own ho => by
    obtain ⟨r, hr, rfl⟩ := List.mem_map.mp ho
    rw [List.length_map, en]; exact (hv r hr).1
  refine ⟨?_, en, by omega, by omega, by omega, fun hn => ⟨by omega, by omega, by omega, by omega, by omega, hn, fun x hx => ?_, vl, ol, fun own ho x hx => ?_⟩, fun x hx => (hr x hx).1, fun own ho x hx => ((hv own ho).2 x hx).1, by rw [em]; exact e0, by rw [ef]; exact e1, by rw [el]; exact e2, by omega, by omega, by omega, vl, ol⟩
  · unfold Got.d Got.m caD Mo.d
    rw [em, ef, el, e0, e1, e2]
    have r1 : rwD g.rows = .tuple ((toMo g).wor.map numsD) := by
      unfold rwD
      show _ = PyData.tuple ((g.rows.map vals).map numsD)
      rw [List.map_map]
      congr 1
      exact List.map_congr_left fun x hx => onD_vals (hr x hx).1
    have r2 : vwD g.vs = viewsD (toMo g).vie := by
      unfold vwD viewsD
      show _ = PyData.tuple ((g.vs.map fun r => r.map vals).map fun own => PyData.tuple (own.map numsD))
      rw [List.map_map]
      congr 1
      refine List.map_congr_left fun own ho => ?_
      unfold rwD
      show _ = PyData.tuple ((own.map vals).map numsD)
      rw [List.map_map]
      congr 1
      exact List.map_congr_left fun x hx => onD_vals ((hv own ho).2 x hx).1
    rw [r1, r2]
    rfl
  · obtain ⟨r, hr2, rfl⟩ := List.mem_map.mp hx
    exact (hr r hr2).2
  · obtain ⟨r, hr2, rfl⟩ := List.mem_map.mp ho
    obtain ⟨y, hy, rfl⟩ := List.mem_map.mp hx
    rw [en]; exact ((hv r hr2).2 y hy).2
theorem gotOf_d {M : Mo} (hM : M.Ok) (w : Nat) : (gotOf M w).d = caD M w := by
  unfold Got.d Got.m caD Mo.d
  have r1 : rwD (gotOf M w).rows = .tuple (M.wor.map numsD) := by
    unfold rwD gotOf
    simp only [List.map_map]
    congr 1
    exact List.map_congr_left fun x hx => onD_of fun y hy => ((nums_is (hM.wo x hx)).1 y hy).1
  have r2 : vwD (gotOf M w).vs = viewsD M.vie := by
    unfold vwD viewsD gotOf
    simp only [List.map_map]
    congr 1
    refine List.map_congr_left fun own ho => ?_
    show rwD (own.map onOf) = _
    unfold rwD
    rw [List.map_map]
    congr 1
    exact List.map_congr_left fun x hx => onD_of fun y hy => ((nums_is (hM.vo own ho x hx)).1 y hy).1
  rw [r1, r2]
  rfl
def rdG (f : Str → Option Nat) (T : Str) : Option Got := match Txt.split T " | " with
  | p0 :: r0 :: x :: xs => (match nsF f p0 with
    | [a0, a1] => some ⟨a0, a1, rwF f r0, (x :: xs).dropLast.map (rwF f), f ((x :: xs).getLast (by simp))⟩
    | _ => none)
  | _ => none
theorem ns_one {f : Str → Option Nat} {B : Nat} (R : Rdr f B) {k : Nat} (hk : k < B) : nsF f (iT k) = [some k] := by
  have := ns_of R (xs := [(k : Int)]) (fun x hx => by rw [List.mem_singleton.mp hx]; omega)
  have e : numT [(k : Int)] = iT k := by
    unfold numT
    rw [if_neg (by simp)]
    exact PySem.StrLaws.glued_eq_join " " [iT k]
  rw [e] at this
  exact this
theorem head_eq (M : Mo) : headT M = numT [(M.minds : Int), (M.facts : Int)] := by
  unfold numT headT
  rw [if_neg (by simp)]
  exact (PySem.StrLaws.glued_eq_join " " [iT M.minds, iT M.facts]).symm
section
variable {f : Str → Option Nat} {B : Nat} (R : Rdr f B)
include R
theorem split_case {M : Mo} (hM : M.Ok) {w : Nat} (hw : w < M.n) : Txt.split (caseT M w) " | " = headT M :: rowT M.wor :: (M.vie.map rowT ++ [iT w]) := by
  have n60 := hM.n60
  have m3 := hM.m3
  have f4 := hM.f4
  unfold caseT
  refine split_join sp3 kd3 _ _ fun q hq => ?_
  have d1 : (124 : Nat) ∉ digs := by decide
  rcases List.mem_cons.mp hq with rfl | hq
  · rw [head_eq]
    exact numT_no (fun x hx => by
      simp only [List.mem_cons, List.mem_nil_iff, or_false] at hx
      rcases hx with rfl | rfl <;> omega) d1 (by decide) (by decide)
  · rcases List.mem_cons.mp hq with rfl | hq
    · exact rowT_no (fun xs hx x hx2 => by have := (nums_is (hM.wo xs hx)).1 x hx2; omega) d1 (by decide) (by decide) (by decide)
    · rcases List.mem_append.mp hq with hq | hq
      · obtain ⟨own, ho, rfl⟩ := List.mem_map.mp hq
        exact rowT_no (fun xs hx x hx2 => by have := (nums_is (hM.vo own ho xs hx)).1 x hx2; omega) d1 (by decide) (by decide) (by decide)
      · rw [List.mem_singleton.mp hq]
        exact iT_no (by omega) d1
theorem rd_of {M : Mo} (hM : M.Ok) {w : Nat} (hw : w < M.n) (hB : M.n ≤ B) (h5 : 5 ≤ B) : rdG f (caseT M w) = some (gotOf M w) := by
  have n1 := hM.n1
  have m3 := hM.m3
  have f4 := hM.f4
  have m1 := hM.m1
  unfold rdG
  rw [split_case R hM hw]
  have e0 : nsF f (headT M) = [some M.minds, some M.facts] := by
    rw [head_eq, ns_of R (fun x hx => by
      simp only [List.mem_cons, List.mem_nil_iff, or_false] at hx
      rcases hx with rfl | rfl <;> omega)]
    rfl
  have e1 : rwF f (rowT M.wor) = M.wor.map onOf := rw_of R (fun e => by
    have : M.n = 0 := by show M.wor.length = 0; rw [e]; rfl
    omega) fun xs hx x hx2 => by have := (nums_is (hM.wo xs hx)).1 x hx2; omega
  have e2 : (M.vie.map rowT).map (rwF f) = M.vie.map fun r => r.map onOf := by
    rw [List.map_map]
    refine List.map_congr_left fun own ho => ?_
    have ol := hM.ol own ho
    exact rw_of R (fun e => by rw [e] at ol; simp at ol; omega) fun xs hx x hx2 => by have := (nums_is (hM.vo own ho xs hx)).1 x hx2; omega
  have e3 : f (iT w) = some w := R.of (by omega)
  cases hv : M.vie.map rowT ++ [iT w] with
  | nil => simp at hv
  | cons x xs =>
    simp only [e0]
    have dl : (x :: xs).dropLast = M.vie.map rowT := by rw [← hv, List.dropLast_concat]
    have gl : (x :: xs).getLast (by simp) = iT w := by
      have : ∀ (l : List Str) (h : l ≠ []), l = M.vie.map rowT ++ [iT w] → l.getLast h = iT w := fun l h e => by subst e; simp
      exact this _ _ hv.symm
    rw [e1, dl, gl, e2, e3]
    rfl
theorem rd_is {T : Str} {g : Got} (h : rdG f T = some g) (c : isC g = true) : T = caseT (toMo g) (g.last.getD 0 : Nat) := by
  have I := isC_mo c
  unfold rdG at h
  split at h
  · rename_i p0 r0 x xs hs
    split at h
    · rename_i a0 a1 hh
      have hg := Option.some.inj h
      have j := join_split' T " | "
      rw [hs] at j
      rw [← j]
      unfold caseT
      have g0 : g.a0 = a0 := by rw [← hg]
      have g1 : g.a1 = a1 := by rw [← hg]
      have gr : g.rows = rwF f r0 := by rw [← hg]
      have gv : g.vs = (x :: xs).dropLast.map (rwF f) := by rw [← hg]
      have gl : g.last = f ((x :: xs).getLast (by simp)) := by rw [← hg]
      have e0 : p0 = headT (toMo g) := by
        have al : (nsF f p0).all Option.isSome = true := by
          rw [hh, ← g0, ← g1, I.s0, I.s1]; rfl
        rw [(ns_is R al).1, hh, head_eq, ← g0, ← g1, I.s0, I.s1]
        rfl
      have e1 : r0 = rowT (toMo g).wor := by
        have := (rw_is R (t := r0) (fun x hx => I.rs x (by rw [gr]; exact hx))).1
        rw [this]
        show _ = rowT (g.rows.map vals)
        rw [gr]
      have e2 : (x :: xs).dropLast = (toMo g).vie.map rowT := by
        show _ = (g.vs.map fun r => r.map vals).map rowT
        rw [gv, List.map_map, List.map_map]
        conv => lhs; rw [← List.map_id (x :: xs).dropLast]
        refine List.map_congr_left fun p hp => ?_
        exact (rw_is R (t := p) (fun y hy => I.vs (rwF f p) (by rw [gv]; exact List.mem_map.mpr ⟨p, hp, rfl⟩) y hy)).1
      have e3 : (x :: xs).getLast (by simp) = iT (g.last.getD 0 : Nat) := (R.is (w := (x :: xs).getLast (by simp)) (k := g.last.getD 0) (by rw [← gl]; exact I.sl)).1
      rw [e0, e1, ← e2, ← e3, List.dropLast_concat_getLast]
    · cases h
  · cases h
end
end Lw
end

section
set_option maxRecDepth 100000
set_option maxHeartbeats 1000000
namespace Lw
open PySem PySem.Spec L2 Mi
/-! ### read_case -/
theorem split_ok {eo : EE} {env : Ev} {st : Sto} {t sep : Str} (he : eo env st = .ok (.d (.str t)) st) (h1 : (sep.length == 0) = false) (h2 : t.length ≤ 900000) : eSplit eo (eC (.str sep)) env st = .ok (.d (.list ((Txt.split t sep).map .str))) st := by
  have sm : small (t.length + 2) = true := small_le _ (by omega)
  unfold eSplit
  rw [he]
  simp only [R.bind_ok, eC_eq, h1, sm, and_self, if_true]
theorem nsF_len (f : Str → Option Nat) (t : Str) : (nsF f t).length ≤ t.length + 2 := by
  unfold nsF
  split
  · exact Nat.zero_le _
  · rw [List.length_map]; exact PyProof.Rows.split_le t " "
theorem rwF_len (f : Str → Option Nat) (t : Str) : (rwF f t).length ≤ t.length + 2 := by
  unfold rwF
  rw [List.length_map]; exact PyProof.Rows.split_le t ", "
theorem rwF_mem {f : Str → Option Nat} {t : Str} {x : ON} (h : x ∈ rwF f t) : x.length ≤ t.length + 2 := by
  unfold rwF at h
  obtain ⟨w, hw, rfl⟩ := List.mem_map.mp h
  have := PyProof.Rows.part_short hw
  have := nsF_len f w
  omega
theorem sqS : ∀ (l : List D) (st : Sto), (R.ok (.d (.list l)) st).seqI = .ok l st := fun _ _ => rfl
theorem btS : ∀ (l : List D) (st : Sto), bTuple [.d (.list l)] st = some (.d (.tuple l), st) := fun _ _ => rfl
theorem c_numbers_in (n : Nat) (t : Str) (ht : t.length ≤ 500000) (st : Sto) (ok : Okk st) : Fs (n + 2) i_numbers_in [.d (.str t)] st = .ok (.d (onD (nsF nP t))) st := by
  have s0 : small 0 = true := rfl
  rw [e_numbers_in]
  unfold nsF
  cases q : t == "-" with
  | true =>
    rw [if_pos rfl]
    simp! only [ssE_ok, m_numbers_in, wEq, q, toDs, s0, fin_d st ok]
    rfl
  | false =>
    rw [if_neg (by decide)]
    have sp : ∀ a1, eSplit (eVar 0) (eC (.str " ")) [some (.d (.str t)), a1] st = .ok (.d (.list ((Txt.split t " ").map .str))) st := fun a1 => split_ok rfl (by decide +kernel) (by omega)
    have sl := PyProof.Rows.split_le t " "
    have sm : small ((Txt.split t " ").map PyData.str).length = true := small_le _ (by rw [List.length_map]; omega)
    have c1 := compL_mp (st := st) (tg := .nm 1) (tt := kYes) (ee := eCl 1 (Fs (n + 1) i_number_in) (aCons (eVar 1) aNil)) (env := [some (.d (.str t)), none]) PyData.str (fun w => oD (nP w)) (Txt.split t " ") (fun w hw => ⟨_, rfl, rfl, by
      have := PyProof.Rows.part_short hw
      have := c_number_in n w (by omega) st ok
      simp! only [ssE_ok, this]⟩)
    simp! only [ssE_ok, m_numbers_in, wEq, q, sp, sqS, sm, c1, btS, fin_d st ok]
    unfold onD
    rw [List.map_map]
    rfl
theorem c_row_in (n : Nat) (t : Str) (ht : t.length ≤ 500000) (st : Sto) (ok : Okk st) : Fs (n + 3) i_row_in [.d (.str t)] st = .ok (.d (rwD (rwF nP t))) st := by
  have sp : ∀ a1, eSplit (eVar 0) (eC (.str ", ")) [some (.d (.str t)), a1] st = .ok (.d (.list ((Txt.split t ", ").map .str))) st := fun a1 => split_ok rfl (by decide +kernel) (by omega)
  have sl := PyProof.Rows.split_le t ", "
  have sm : small ((Txt.split t ", ").map PyData.str).length = true := small_le _ (by rw [List.length_map]; omega)
  have c1 := compL_mp (st := st) (tg := .nm 1) (tt := kYes) (ee := eCl 1 (Fs (n + 2) i_numbers_in) (aCons (eVar 1) aNil)) (env := [some (.d (.str t)), none]) PyData.str (fun w => onD (nsF nP w)) (Txt.split t ", ") (fun w hw => ⟨_, rfl, rfl, by
    have := PyProof.Rows.part_short hw
    have := c_numbers_in n w (by omega) st ok
    simp! only [ssE_ok, this]⟩)
  rw [e_row_in]
  simp! only [ssE_ok, m_row_in, sp, sqS, sm, c1, btS, fin_d st ok]
  unfold rwD rwF
  rw [List.map_map]
  rfl
theorem cut_mid {α : Type} (a : α) (l : List α) (h : l ≠ []) : cut (a :: l) (some 1) (some (-1)) = l.dropLast := by
  have hl : 1 ≤ l.length := List.length_pos_iff.mpr h
  unfold cut
  simp only [HT.sIx, List.length_cons, show ¬ ((1 : Int) < 0) by decide, show ((-1 : Int) < 0) by decide, if_true, if_false]
  rw [show ((-1 : Int) + ((l.length + 1 : Nat) : Int)).toNat = l.length by omega, show min (1 : Int).toNat (l.length + 1) = 1 by simp, List.drop_succ_cons, List.drop_zero, List.dropLast_eq_take]
theorem ix_last {α : Type} (l : List α) (x : α) : atI (l ++ [x]) (-1) = some x := by
  unfold atI ixN
  simp
  rw [show (-1 + ((l.length : Int) + 1)).toNat = l.length by omega, if_pos (by omega)]
  simp
theorem ix_lastS {a : Str} {l : List Str} (h : l ≠ []) (st : Sto) : vIx (.d (.list ((a :: l).map PyData.str))) (.d (.int (-1))) st = some (.d (.str (l.getLast h)), st) := by
  have e : (a :: l).map PyData.str = ((a :: l.dropLast).map PyData.str) ++ [PyData.str (l.getLast h)] := by
    conv => lhs; rw [← List.dropLast_concat_getLast h]
    simp
  have q := ix_last ((a :: l.dropLast).map PyData.str) (PyData.str (l.getLast h))
  rw [← e] at q
  simp only [vIx, sqOf, lsOf, q, Option.map_some]
theorem ix_firstS {a : Str} {l : List Str} (st : Sto) : vIx (.d (.list ((a :: l).map PyData.str))) (.d (.int 0)) st = some (.d (.str a), st) := by
  have q : atI ((a :: l).map PyData.str) ((0 : Nat) : Int) = some (.str a) := atI_nat rfl
  simp only [vIx, sqOf, lsOf]
  exact congrArg (Option.map fun v => (Val.d v, st)) q
def rdR (T : Str) (st : Sto) : R Val := match rdG nP T with
  | some g => if isC g = true then .ok (.d g.d) st else .exc ⟨11, none⟩ st
  | none => .exc ⟨11, none⟩ st
theorem c_read (n : Nat) (T : Str) (hT : T.length ≤ 400000) (st : Sto) (ok : Okk st) : Fs (n + 6) i_read_case [.d (.str T)] st = rdR T st := by
  have ok' : insOk st.length (st.take st.length) = true := by rw [List.take_length]; exact ok
  have ty : tyOf (.d (.str T)) st = some "str" := rfl
  have sp : ∀ a1 a2 a3 a4 a5 a6, eSplit (eVar 0) (eC (.str " | ")) [some (.d (.str T)), a1, a2, a3, a4, a5, a6] st = .ok (.d (.list ((Txt.split T " | ").map .str))) st := fun a1 a2 a3 a4 a5 a6 => split_ok rfl (by decide +kernel) (by omega)
  have ne := split_ne T " | "
  have ps : ∀ w ∈ Txt.split T " | ", w.length ≤ 400000 := fun w hw => Nat.le_trans (PyProof.Rows.part_short hw) hT
  have pn := PyProof.Rows.split_le T " | "
  rw [e_read_case]
  unfold rdR rdG
  cases hs : Txt.split T " | " with
  | nil => exact absurd hs ne
  | cons p0 rest =>
    rw [hs] at sp ps pn
    have sta : ∀ a1 a2 a3 a4 a5 a6, sStarL 1 2 (eSplit (eVar 0) (eC (.str " | "))) [some (.d (.str T)), a1, a2, a3, a4, a5, a6] st = .ok (.nx [some (.d (.str T)), some (.d (.str p0)), some (.d (.list (rest.map .str))), a3, a4, a5, a6]) st := fun a1 a2 a3 a4 a5 a6 => starL_ok (sp a1 a2 a3 a4 a5 a6)
    have ns := c_numbers_in (n + 3) p0 (by have := ps p0 (by simp); omega) st ok
    have bl : bLen [.d (onD (nsF nP p0))] st = some (.d (.int ((nsF nP p0).length : Nat)), st) := by simp only [onD, bLen, lenOf, sqOf, lsOf, Option.map_some, List.length_map]
    have br : bLen [.d (.list (rest.map PyData.str))] st = some (.d (.int (rest.length : Nat)), st) := by simp only [bLen, lenOf, sqOf, lsOf, Option.map_some, List.length_map]
    have n2 : vNe (.d (.int ((nsF nP p0).length : Nat))) (.d (.int 2)) st = some (.d (.bool (!decide ((nsF nP p0).length = 2))), st) := ne_nat _ 2 st
    by_cases q1 : (nsF nP p0).length = 2
    · rw [decide_eq_true q1] at n2
      obtain ⟨a0, a1, ea⟩ : ∃ a0 a1, nsF nP p0 = [a0, a1] := by
        match h : nsF nP p0, q1 with
        | [a0, a1], _ => exact ⟨a0, a1, rfl⟩
      match rest, hs with
      | [], hs =>
        have lt : decide (((0 : Nat) : Int) < 2) = true := by decide
        simp! only [ssE_ok, m_read_case, ty, sta, ns, bl, n2, Bool.not_true, br, lt]
        rw [fin0_ex ok', List.take_length]
      | [r0], hs =>
        have lt : decide (((1 : Nat) : Int) < 2) = true := by decide
        simp! only [ssE_ok, m_read_case, ty, sta, ns, bl, n2, Bool.not_true, br, lt]
        rw [fin0_ex ok', List.take_length]
      | r0 :: x :: xs, hs =>
        have lt : decide (((xs.length + 1 + 1 : Nat) : Int) < 2) = false := decide_eq_false (by omega)
        have hne : (x :: xs) ≠ [] := by simp
        have sl : vSl (.d (.list ((r0 :: x :: xs).map PyData.str))) (some 1) (some (-1)) st = some (.d (.list ((x :: xs).dropLast.map PyData.str)), st) := by
          have c := cut_mid (PyData.str r0) ((x :: xs).map PyData.str) (by simp)
          rw [← List.map_cons] at c
          simp only [vSl, lsOf, c, List.map_dropLast]
        have i0 : vIx (.d (onD (nsF nP p0))) (.d (.int 0)) st = some (.d (oD a0), st) := by rw [ea]; rfl
        have i1 : vIx (.d (onD (nsF nP p0))) (.d (.int 1)) st = some (.d (oD a1), st) := by rw [ea]; rfl
        have f0 := ix_firstS (a := r0) (l := x :: xs) st
        have fl := ix_lastS (a := r0) hne st
        have ri := c_row_in (n + 2) r0 (by have := ps r0 (by simp); omega) st ok
        have hd : ∀ w ∈ (x :: xs).dropLast, w.length ≤ 400000 := fun w hw => ps w (by
          have := (List.dropLast_sublist _).subset hw
          simp only [List.mem_cons] at this ⊢
          right; right; exact this)
        have dl : (x :: xs).dropLast.length ≤ 400004 := by simp at pn ⊢; omega
        have sm : small ((x :: xs).dropLast.map PyData.str).length = true := small_le _ (by rw [List.length_map]; omega)
        have c1 := fun a3 => compL_mp (st := st) (tg := .nm 6) (tt := kYes) (ee := eCl 1 (Fs (n + 5) i_row_in) (aCons (eVar 6) aNil)) (env := [some (.d (.str T)), some (.d (.str p0)), some (.d (.list ((r0 :: x :: xs).map .str))), a3, none, none, none]) PyData.str (fun w => rwD (rwF nP w)) (x :: xs).dropLast (fun w hw => ⟨_, rfl, rfl, by
          have := c_row_in (n + 2) w (by have := hd w hw; omega) st ok
          simp! only [ssE_ok, this]⟩)
        have gw : ((x :: xs).getLast hne).length ≤ 400000 := ps _ (by
          have := List.getLast_mem hne
          simp only [List.mem_cons] at this ⊢
          right; right; exact this)
        have ni := c_number_in (n + 4) ((x :: xs).getLast hne) (by omega) st ok
        obtain ⟨g, hg⟩ : ∃ g : Got, g = ⟨a0, a1, rwF nP r0, (x :: xs).dropLast.map (rwF nP), nP ((x :: xs).getLast hne)⟩ := ⟨_, rfl⟩
        have sg : g.Sm := by
          have l0 : r0.length ≤ 400000 := ps r0 (by simp)
          rw [hg]
          refine ⟨?_, fun y hy => ?_, ?_, fun own ho y hy => ?_⟩
          · have := rwF_len nP r0
            show (rwF nP r0).length ≤ _; omega
          · have := rwF_mem (f := nP) (t := r0) hy; omega
          · show ((x :: xs).dropLast.map (rwF nP)).length ≤ _
            rw [List.length_map]; omega
          · obtain ⟨w, hw, rfl⟩ := List.mem_map.mp ho
            have := rwF_mem hy
            have := hd w hw
            omega
        have ic := c_is_caseO n g sg st ok
        have dm : PyData.tuple [oD a0, oD a1, rwD (rwF nP r0), .tuple ((x :: xs).dropLast.map fun w => rwD (rwF nP w))] = g.m := by
          rw [hg]; unfold Got.m vwD
          simp only [List.map_map]
          rfl
        have dd : PyData.tuple [g.m, oD (nP ((x :: xs).getLast hne))] = g.d := by rw [hg]; rfl
        have s4 : small 4 = true := rfl
        have s2 : small 2 = true := rfl
        simp only [ea]
        rw [← hg]
        cases qc : isC g with
        | true =>
          rw [qc] at ic
          simp! only [ssE_ok, m_read_case, ty, sta, ns, bl, n2, Bool.not_true, br, lt, i0, i1, f0, ri, sl, sqS, sm, c1, btS, toDs, s4, dm, fl, ni, s2, dd, ic, fin_d st ok]
        | false =>
          rw [qc] at ic
          simp! only [ssE_ok, m_read_case, ty, sta, ns, bl, n2, Bool.not_true, br, lt, i0, i1, f0, ri, sl, sqS, sm, c1, btS, toDs, s4, dm, fl, ni, s2, dd, ic]
          rw [fin0_ex ok', List.take_length]
    · rw [decide_eq_false q1] at n2
      simp! only [ssE_ok, m_read_case, ty, sta, ns, bl, n2, Bool.not_false]
      rw [fin0_ex ok', List.take_length]
      rcases rest with _ | ⟨r0, _ | ⟨x, xs⟩⟩
      · rfl
      · rfl
      · cases h : nsF nP p0 with
        | nil => simp only [h]
        | cons a t => cases t with
          | nil => simp only [h]
          | cons b t => cases t with
            | nil => exact absurd (by rw [h]; rfl) q1
            | cons c t => simp only [h]
end Lw
end

section
set_option maxRecDepth 100000
set_option maxHeartbeats 1000000
namespace Lw
open PySem PySem.Spec L2 Mi
/-! ### _law_text -/
theorem c_law_some (n : Nat) (xs : List Int) (h : ∀ x ∈ xs, 0 ≤ x ∧ x < 1000) (hl : xs.length ≤ 120) (st : Sto) (ok : Okk st) : Fs (n + 1) i__law_some [.d (numsD xs)] st = .ok (.d (.str (numT xs))) st := by
  have ne := ne_nums xs [] st
  have te : (.tuple [] : D) = numsD [] := rfl
  have s0 : small 0 = true := rfl
  rw [e__law_some]
  by_cases hx : xs = []
  · have nt : numT xs = "-" := if_pos hx
    rw [decide_eq_true hx] at ne
    simp! only [ssE_ok, m__law_some, toDs, s0, te, ne, Bool.not_true, nt, fin_d st ok]
  · have nt : numT xs = PySem.Txt.join " " (xs.map iT) := if_neg hx
    rw [decide_eq_false hx] at ne
    have cm := compL_mp (st := st) (env := [some (.d (numsD xs)), none]) (tg := .nm 1) (tt := kYes) (ee := eCB bStrI (aCons (eVar 1) aNil)) PyData.int (fun i => .str (iT i)) xs (fun x hx => by
      refine ⟨_, rfl, rfl, ?_⟩
      simp! only [ssE_ok, strI_ok (h x hx).1 (h x hx).2 st])
    have sm : small (xs.map PyData.int).length = true := small_le _ (by rw [List.length_map]; omega)
    have sm2 : small (xs.map fun i => PyData.str (iT i)).length = true := small_le _ (by rw [List.length_map]; omega)
    have jo : eJoin (eC (.str " ")) (eLc [1] (.nm 1) (iSeq (eVar 0)) kYes (eCB bStrI (aCons (eVar 1) aNil))) [some (.d (numsD xs)), none] st = .ok (.d (.str (PySem.Txt.join " " (xs.map iT)))) st := by
      refine join_ok (y := .d (.list (xs.map fun i => PyData.str (iT i)))) (ys := xs.map iT) rfl ?_ (by simp [sqOf, lsOf, List.map_map]) 3 (fun y hy => ?_) ?_
      · simp only [numsD] at cm
        simp! only [ssE_ok, numsD, sm, sm2, cm]
      · obtain ⟨x, hx, rfl⟩ := List.mem_map.mp hy
        exact iT_len (h x hx).1 (h x hx).2
      · have e : (" " : Str).length = 1 := rfl
        rw [e, List.length_map]; omega
    simp! only [ssE_ok, m__law_some, toDs, s0, te, ne, Bool.not_false, jo, nt, fin_d st ok]
theorem c_law_text (n : Nat) (M : Mo) (hM : M.Ok) (w : Nat) (hw : w < M.n) (st : Sto) (ok : Okk st) : Fs (n + 2) i__law_text [.d (caD M w)] st = .ok (.d (.str (caseT M w))) st := by
  have n60 := hM.n60
  have f4 := hM.f4
  have m3 := hM.m3
  have c0 : ∀ st : Sto, vIx (.d M.d) (.d (.int 0)) st = some (.d (.int M.minds), st) := fun _ => rfl
  have c1 : ∀ st : Sto, vIx (.d M.d) (.d (.int 1)) st = some (.d (.int M.facts), st) := fun _ => rfl
  have c2 : ∀ st : Sto, vIx (.d M.d) (.d (.int 2)) st = some (.d (ownD M.wor), st) := fun _ => rfl
  have c3 : ∀ st : Sto, vIx (.d M.d) (.d (.int 3)) st = some (.d (.tuple (M.vie.map ownD)), st) := fun _ => rfl
  have i1 : (iT M.minds).length ≤ 3 := iT_len (by omega) (by omega)
  have i2 : (iT M.facts).length ≤ 3 := iT_len (by omega) (by omega)
  have e1 : (" " : Str).length = 1 := rfl
  have t0 := strI_ok (i := M.minds) (by omega) (by omega) st
  have t1 := strI_ok (i := M.facts) (by omega) (by omega) st
  have a1 : vAdd (.d (.str (iT M.minds))) (.d (.str " ")) st = some (.d (.str (iT M.minds ++ " ")), st) := if_pos (small_le _ (by rw [e1]; omega))
  have a2 : vAdd (.d (.str (iT M.minds ++ " "))) (.d (.str (iT M.facts))) st = some (.d (.str (headT M)), st) := if_pos (small_le _ (by rw [Str.length_append, e1]; omega))
  have rows : ∀ own ∈ M.wor :: M.vie, own.length ≤ 120 ∧ ∀ xs ∈ own, xs.length ≤ 120 ∧ ∀ x ∈ xs, 0 ≤ x ∧ x < 1000 := fun own ho => by
    rcases List.mem_cons.mp ho with rfl | ho
    · exact ⟨n60, fun xs hx => nums_txt (hM.wo xs hx) (by omega)⟩
    · exact ⟨by rw [hM.ol own ho]; exact n60, fun xs hx => nums_txt (hM.vo own ho xs hx) n60⟩
  have jr : ∀ own ∈ M.wor :: M.vie, ∀ a0 a1 a2 a3 a4, eJoin (eC (.str ", ")) (eLc [6] (.nm 6) (iSeq (eVar 5)) kYes (eCl 1 (Fs (n + 1) i__law_some) (aCons (eVar 6) aNil))) [a0, a1, a2, a3, a4, some (.d (ownD own)), none] st = .ok (.d (.str (rowT own))) st := fun own ho a0 a1 a2 a3 a4 => by
    have hr := rows own ho
    have cm := compL_mp (st := st) (env := [a0, a1, a2, a3, a4, some (.d (ownD own)), none]) (tg := .nm 6) (tt := kYes) (ee := eCl 1 (Fs (n + 1) i__law_some) (aCons (eVar 6) aNil)) numsD (fun xs => .str (numT xs)) own (fun xs hx => by
      refine ⟨_, rfl, rfl, ?_⟩
      simp! only [ssE_ok, c_law_some n xs (hr.2 xs hx).2 (hr.2 xs hx).1 st ok])
    have sm : small (own.map numsD).length = true := small_le _ (by rw [List.length_map]; omega)
    have sq : (R.ok (.d (ownD own)) st).seqI = .ok (own.map numsD) st := rfl
    refine join_ok (y := .d (.list (own.map fun i => PyData.str (numT i)))) (ys := own.map numT) rfl ?_ (by simp [sqOf, lsOf, List.map_map]) 480 (fun y hy => ?_) ?_
    · simp! only [ssE_ok, sq, sm, cm]
    · obtain ⟨x, hx, rfl⟩ := List.mem_map.mp hy
      exact numT_len (hr.2 x hx).2 (hr.2 x hx).1
    · have e : (", " : Str).length = 2 := rfl
      rw [e, List.length_map]; omega
  have cm2 := compL_mp (st := st) (env := [some (.d (caD M w)), some (.d M.d), some (.d (.int w)), some (.d (.list ((M.wor :: M.vie).map ownD))), none, none, none]) (tg := .nm 5) (tt := kYes) (ee := eJoin (eC (.str ", ")) (eLc [6] (.nm 6) (iSeq (eVar 5)) kYes (eCl 1 (Fs (n + 1) i__law_some) (aCons (eVar 6) aNil)))) ownD (fun own => .str (rowT own)) (M.wor :: M.vie) (fun own ho => ⟨_, rfl, rfl, jr own ho _ _ _ _ _⟩)
  have bl : ∀ l : List D, bList [.d (.tuple l)] st = some (.d (.list l), st) := fun l => by simp only [bList, sqOf, lsOf, Option.map_some]
  have s1 : small 1 = true := rfl
  have s2 : small 2 = true := rfl
  have va : vAdd (.d (.list [ownD M.wor])) (.d (.list (M.vie.map ownD))) st = some (.d (.list ((M.wor :: M.vie).map ownD)), st) := if_pos (small_le _ (by rw [List.length_map, hM.vl]; simp; omega))
  have sm : small ((M.wor :: M.vie).map ownD).length = true := small_le _ (by rw [List.length_map, List.length_cons, hM.vl]; omega)
  have va2 : vAdd (.d (.list [.str (headT M)])) (.d (.list ((M.wor :: M.vie).map fun own => PyData.str (rowT own)))) st = some (.d (.list (.str (headT M) :: (M.wor :: M.vie).map fun own => PyData.str (rowT own))), st) := if_pos (small_le _ (by simp [hM.vl]; omega))
  have va3 : vAdd (.d (.list (.str (headT M) :: (M.wor :: M.vie).map fun own => PyData.str (rowT own)))) (.d (.list [.str (iT w)])) st = some (.d (.list ((.str (headT M) :: (M.wor :: M.vie).map fun own => PyData.str (rowT own)) ++ [.str (iT w)])), st) := if_pos (small_le _ (by simp [hM.vl]; omega))
  have si := strI_ok (i := w) (by omega) (by omega) st
  have jo : eJoin (eC (.str " | ")) (eOp vAdd (eVar 4) (eLst (aCons (eCB bStrI (aCons (eVar 2) aNil)) aNil))) [some (.d (caD M w)), some (.d M.d), some (.d (.int w)), some (.d (.list ((M.wor :: M.vie).map ownD))), some (.d (.list (.str (headT M) :: (M.wor :: M.vie).map fun own => PyData.str (rowT own)))), none, none] st = .ok (.d (.str (caseT M w))) st := by
    refine join_ok (y := .d (.list ((.str (headT M) :: (M.wor :: M.vie).map fun own => PyData.str (rowT own)) ++ [.str (iT w)]))) (ys := headT M :: rowT M.wor :: (M.vie.map rowT ++ [iT w])) rfl ?_ (by simp [sqOf, lsOf, List.map_map]) 57840 (fun y hy => ?_) ?_
    · simp! only [ssE_ok, si, toDs, s1, va3]
    · rcases List.mem_cons.mp hy with rfl | hy
      · have : (headT M).length ≤ 7 := by
          unfold headT
          rw [Str.length_append, Str.length_append, e1]; omega
        omega
      rcases List.mem_cons.mp hy with rfl | hy
      · exact rowT_len (fun xs hx => nums_txt (hM.wo xs hx) (by omega)) n60
      rcases List.mem_append.mp hy with hy | hy
      · obtain ⟨own, ho, rfl⟩ := List.mem_map.mp hy
        exact rowT_len (fun xs hx => nums_txt (hM.vo own ho xs hx) n60) (by rw [hM.ol own ho]; exact n60)
      · rw [List.mem_singleton.mp hy]
        have := iT_len (i := w) (by omega) (by omega)
        omega
    · have e : (" | " : Str).length = 3 := rfl
      simp only [List.length_cons, List.length_append, List.length_map, List.length_nil, hM.vl, e]; omega
  have set2 : setAll [1, 2] [M.d, .int w] [some (.d (caD M w)), none, none, none, none, none, none] = [some (.d (caD M w)), some (.d M.d), some (.d (.int w)), none, none, none, none] := rfl
  rw [e__law_text]
  have dd : caD M w = .tuple [M.d, .int w] := rfl
  simp! only [ssE_ok, m__law_text, caD, setVs] at jo cm2 ⊢
  simp! only [ssE_ok, setVs, c0, c1, c2, c3, bl, toDs, s1, va, sqS, t0, t1, a1, a2, sm, cm2, va2, jo, fin_d st ok]
end Lw
end

section
set_option maxRecDepth 100000
set_option maxHeartbeats 1000000
namespace Lw
open PySem PySem.Spec L2 Mi
/-! ### _law_numbers, and what the law's reading is -/
def figL : List D := (List.range 100).map fun k => .str (iT (k : Nat))
def nL (w : Str) : Option Nat := (List.range 100).findIdx? fun k => iT (k : Nat) == w
theorem nL_chk : ((List.range 100).all fun k => decide (nL (iT (k : Nat)) = some k)) = true := by decide +kernel
theorem nL_is {w : Str} {k : Nat} (h : nL w = some k) : w = iT k ∧ k < 100 := by
  unfold nL at h
  obtain ⟨hl, h1, _⟩ := List.findIdx?_eq_some_iff_getElem.mp h
  rw [List.length_range] at hl
  rw [List.getElem_range] at h1
  exact ⟨(eq_of_beq h1).symm, hl⟩
theorem rdr_L : Rdr nL 100 := ⟨fun {k} hk => of_decide_eq_true (List.all_eq_true.mp nL_chk k (List.mem_range.mpr hk)), nL_is, by decide⟩
theorem figL_pl : PyData.plainAll figL = true := by decide +kernel
theorem figL_dp : PyData.depthAll figL ≤ 150 := by decide +kernel
theorem fit_figs (w : Str) : fitsIn figL (.str w) = true := by
  unfold fitsIn
  rw [figL_pl]
  have : (PyData.str w).plain = true := rfl
  rw [this, Bool.and_self, Bool.true_and, decide_eq_true_eq]
  exact Nat.le_trans (Nat.min_le_left _ _) figL_dp
theorem in_figs (w : Str) (st : Sto) : vIn (.d (.str w)) (.d (.list figL)) st = some (.d (.bool (nL w).isSome), st) := by
  have e : (figL.any fun y => PyData.eqv y (.str w)) = (nL w).isSome := by
    unfold figL nL
    rw [List.any_map, List.findIdx?_isSome]
    congr 1
  simp only [vIn, datOf, sqOf, lsOf, fit_figs, if_true, e]
theorem ix_figs {w : Str} {k : Nat} (h : nL w = some k) (st : Sto) : (R.ok (.d (.str w)) st).idx2 (.d (.list figL)) = .ok (.d (.int (k : Nat))) st := by
  refine idx2_ok (fit_figs w) (by decide +kernel) ?_
  unfold figL
  rw [List.findIdx?_map]
  unfold nL at h
  rw [← h]
  congr 1
theorem c_law_numbers (n : Nat) (t : Str) (ht : t.length ≤ 500000) (st : Sto) (ok : Okk st) : Fs (n + 1) i__law_numbers [.d (.str t)] st = .ok (.d (onD (nsF nL t))) st := by
  have s0 : small 0 = true := rfl
  have rm : (-(2 ^ 62) ≤ (100 : Int) ∧ (100 : Int) ≤ 1000000) := by decide
  have tn : Int.toNat 100 = 100 := rfl
  have c0 := compL_mp (st := st) (tg := .nm 2) (tt := kYes) (ee := eCB bStrI (aCons (eVar 2) aNil)) (env := [some (.d (.str t)), none, none, none]) (fun k : Nat => PyData.int (0 + (k : Nat))) (fun k => .str (iT (k : Nat))) (List.range 100) (fun k hk => ⟨_, rfl, rfl, by
    have := List.mem_range.mp hk
    have z : (0 : Int) + (k : Nat) = k := by omega
    simp! only [ssE_ok, z, strI_ok (i := (k : Int)) (by omega) (by omega) st]⟩)
  have sm0 : small ((List.range 100).map fun k : Nat => PyData.int (0 + (k : Nat))).length = true := small_le _ (by rw [List.length_map, List.length_range]; decide)
  have cf : ((List.range 100).map fun k => PyData.str (iT (k : Nat))) = figL := rfl
  rw [cf] at c0
  have smf : small figL.length = true := by decide +kernel
  rw [e__law_numbers]
  unfold nsF
  cases q : t == "-" with
  | true =>
    rw [if_pos rfl]
    simp! only [ssE_ok, m__law_numbers, rm, and_self, tn, sm0, c0, wEq, q, toDs, s0, fin_d st ok]
    rfl
  | false =>
    rw [if_neg (by decide)]
    have sp : ∀ a1 a2 a3, eSplit (eVar 0) (eC (.str " ")) [some (.d (.str t)), a1, a2, a3] st = .ok (.d (.list ((Txt.split t " ").map .str))) st := fun a1 a2 a3 => split_ok rfl (by decide +kernel) (by omega)
    have sl := PyProof.Rows.split_le t " "
    have sm : small ((Txt.split t " ").map PyData.str).length = true := small_le _ (by rw [List.length_map]; omega)
    have c1 := compL_mp (st := st) (tg := .nm 3) (tt := kYes) (ee := eIf (eTst (eOp vIn (eVar 3) (eVar 1))) (eIndex (eVar 1) (eVar 3)) (eC .none)) (env := [some (.d (.str t)), some (.d (.list figL)), none, none]) PyData.str (fun w => oD (nL w)) (Txt.split t " ") (fun w hw => ⟨_, rfl, rfl, by
      have i := in_figs w st
      cases e : nL w with
      | none =>
        rw [e] at i
        have i : vIn (.d (.str w)) (.d (.list figL)) st = some (.d (.bool false), st) := i
        simp! only [ssE_ok, i]
        rfl
      | some k =>
        rw [e] at i
        have i : vIn (.d (.str w)) (.d (.list figL)) st = some (.d (.bool true), st) := i
        simp! only [ssE_ok, i, ix_figs e st]
        rfl⟩)
    simp! only [ssE_ok, m__law_numbers, rm, and_self, tn, sm0, c0, wEq, q, sp, sqS, sm, c1, btS, fin_d st ok]
    unfold onD
    rw [List.map_map]
    rfl
def rdL (T : Str) : Option Got := match Txt.split T " | " with
  | p0 :: r0 :: x :: xs => (match nsF nL p0, nsF nL ((x :: xs).getLast (by simp)) with
    | [a0, a1], [l] => some ⟨a0, a1, rwF nL r0, (x :: xs).dropLast.map (rwF nL), l⟩
    | _, _ => none)
  | _ => none
theorem ns_single {f : Str → Option Nat} {t : Str} {l : Option Nat} (h : nsF f t = [l]) : f t = l := by
  unfold nsF at h
  split at h
  · cases h
  · have j := join_split' t " "
    match hs : Txt.split t " ", h with
    | [w], h =>
      rw [hs] at j
      have j : w = t := (PySem.StrLaws.glued_eq_join " " [w]).symm.trans j
      have h : [f w] = [l] := h
      rw [j] at h
      exact List.cons.inj h |>.1
    | a :: b :: r, h => simp at h
theorem rdL_G {T : Str} {g : Got} (h : rdL T = some g) : rdG nL T = some g := by
  unfold rdL at h
  unfold rdG
  split at h
  · rename_i p0 r0 x xs hs
    split at h
    · rename_i a0 a1 l h1 h2
      try rw [hs]
      simp only [h1]
      rw [ns_single h2]
      exact h
    · cases h
  · cases h
theorem rdG_L {T : Str} {g : Got} {k : Nat} (h : rdG nL T = some g) (hk : g.last = some k) : rdL T = some g := by
  unfold rdG at h
  unfold rdL
  split at h
  · rename_i p0 r0 x xs hs
    split at h
    · rename_i a0 a1 h1
      have hg := Option.some.inj h
      have gl : nL ((x :: xs).getLast (by simp)) = some k := by rw [← hk, ← hg]
      have := nL_is gl
      have h2 : nsF nL ((x :: xs).getLast (by simp)) = [some k] := by rw [this.1]; exact ns_one rdr_L this.2
      try rw [hs]
      simp only [h1, h2]
      rw [← gl]
      exact h
    · cases h
  · cases h
end Lw
end

section
set_option maxRecDepth 100000
set_option maxHeartbeats 1000000
namespace Lw
open PySem PySem.Spec L2 Mi
/-! ### how long the texts of cases are; what both readings find -/
theorem iT_chk2 : ((List.range 1000).all fun k => decide (1 ≤ (iT (k : Nat)).length)) = true := by decide +kernel
theorem iT_chk3 : ((List.range 10).all fun k => decide ((iT (k : Nat)).length ≤ 1)) = true := by decide +kernel
theorem iT_ge {x : Int} (h0 : 0 ≤ x) (h : x < 1000) : 1 ≤ (iT x).length := by
  have := of_decide_eq_true (List.all_eq_true.mp iT_chk2 x.toNat (List.mem_range.mpr (by omega)))
  rwa [Int.toNat_of_nonneg h0] at this
theorem iT_le {x : Int} (h0 : 0 ≤ x) (h : x < 10) : (iT x).length ≤ 1 := by
  have := of_decide_eq_true (List.all_eq_true.mp iT_chk3 x.toNat (List.mem_range.mpr (by omega)))
  rwa [Int.toNat_of_nonneg h0] at this
theorem join_ge (a : Str) (k : Nat) : ∀ (ys : List Str), (∀ y ∈ ys, k ≤ y.length) → ys.length * (k + a.length) ≤ (PySem.Txt.join a ys).length + a.length
  | [], _ => by simp
  | [y], h => by
    have := h y List.mem_cons_self
    show _ ≤ (Builtin.Str.glued a [y]).length + _
    rw [StrLaws.glued_eq_join]
    show _ ≤ y.length + _
    rw [List.length_singleton]; omega
  | y :: z :: r, h => by
    have h1 := h y List.mem_cons_self
    have ih := join_ge a k (z :: r) fun x hx => h x (List.mem_cons_of_mem _ hx)
    have e1 : PySem.Txt.join a (z :: r) = Str.join a (z :: r) := StrLaws.glued_eq_join a _
    have e2 : PySem.Txt.join a (y :: z :: r) = y ++ a ++ Str.join a (z :: r) := StrLaws.glued_eq_join a _
    rw [e1] at ih
    rw [e2, Str.length_append, Str.length_append, List.length_cons, Nat.succ_mul]
    omega
theorem join_sum (a : Str) (ys : List Str) : (ys.map (·.length)).sum ≤ (PySem.Txt.join a ys).length := by
  have := PySem.size_glued a ys
  show _ ≤ (Builtin.Str.glued a ys).length
  omega
def Ent (xs : List Int) : Prop := ∀ x ∈ xs, 0 ≤ x ∧ x < 1000
theorem numT_ge {xs : List Int} (h : Ent xs) : 1 ≤ (numT xs).length := by
  unfold numT
  split
  · decide
  · cases xs with
    | nil => contradiction
    | cons x r =>
      have := join_head " " (iT x) (r.map iT)
      have := iT_ge (h x (by simp)).1 (h x (by simp)).2
      rw [List.map_cons]; omega
theorem rowT_ge {rows : List (List Int)} (h : ∀ xs ∈ rows, Ent xs) : rows.length * 3 ≤ (rowT rows).length + 2 := by
  have := join_ge ", " 1 (rows.map numT) (fun y hy => by
    obtain ⟨x, hx, rfl⟩ := List.mem_map.mp hy
    exact numT_ge (h x hx))
  have e : (", " : Str).length = 2 := rfl
  rw [e, List.length_map] at this
  exact this
theorem caseT_ge {M : Mo} {w : Int} (h1 : ∀ xs ∈ M.wor, Ent xs) (h2 : ∀ own ∈ M.vie, own.length = M.n ∧ ∀ xs ∈ own, Ent xs) (hv : M.vie ≠ []) : M.n * 6 ≤ (caseT M w).length + 4 := by
  have s := join_sum " | " (headT M :: rowT M.wor :: (M.vie.map rowT ++ [iT w]))
  have a := rowT_ge h1
  have en : M.wor.length = M.n := rfl
  unfold caseT
  match hv2 : M.vie, hv with
  | own :: rest, _ =>
    have ho := h2 own (by rw [hv2]; simp)
    have b := rowT_ge ho.2
    rw [ho.1] at b
    rw [hv2] at s
    simp only [List.map_cons, List.cons_append, List.sum_cons] at s ⊢
    omega
theorem numT_le6 {k : Nat} {xs : List Int} (h : numsOk k xs = true) (hk : k ≤ 6) : (numT xs).length ≤ 12 := by
  obtain ⟨h1, h2⟩ := nums_is h
  have := sorted_len xs 0 k h2 (fun x hx => by have := h1 x hx; omega)
  unfold numT
  split
  · decide
  · have j := join_len " " 1 (xs.map iT) (fun y hy => by
      obtain ⟨x, hx, rfl⟩ := List.mem_map.mp hy
      exact iT_le (by have := h1 x hx; omega) (by have := h1 x hx; omega))
    have e : (" " : Str).length = 1 := rfl
    rw [e, List.length_map] at j
    omega
theorem rowT_le6 {k : Nat} {rows : List (List Int)} (h : ∀ xs ∈ rows, numsOk k xs = true) (hk : k ≤ 6) (hl : rows.length ≤ 6) : (rowT rows).length ≤ 84 := by
  have j := join_len ", " 12 (rows.map numT) (fun y hy => by
    obtain ⟨x, hx, rfl⟩ := List.mem_map.mp hy
    exact numT_le6 (h x hx) hk)
  have e : (", " : Str).length = 2 := rfl
  rw [e, List.length_map] at j
  unfold rowT
  omega
theorem caseT_le6 {M : Mo} (hM : M.Ok) (h6 : M.n ≤ 6) {w : Nat} (hw : w < M.n) : (caseT M w).length ≤ 522 := by
  have f4 := hM.f4
  have m3 := hM.m3
  have e : (" | " : Str).length = 3 := rfl
  have j := join_len " | " 84 (headT M :: rowT M.wor :: (M.vie.map rowT ++ [iT w])) (fun y hy => by
    rcases List.mem_cons.mp hy with rfl | hy
    · unfold headT
      have e : (" " : Str).length = 1 := rfl
      have a := iT_len (i := M.minds) (by omega) (by omega)
      have b := iT_len (i := M.facts) (by omega) (by omega)
      rw [Str.length_append, Str.length_append, e]; omega
    rcases List.mem_cons.mp hy with rfl | hy
    · exact rowT_le6 hM.wo (by omega) h6
    rcases List.mem_append.mp hy with hy | hy
    · obtain ⟨own, ho, rfl⟩ := List.mem_map.mp hy
      exact rowT_le6 (hM.vo own ho) h6 (by rw [hM.ol own ho]; exact h6)
    · rw [List.mem_singleton.mp hy]
      have := iT_len (i := w) (by omega) (by omega)
      omega)
  rw [e] at j
  simp only [List.length_cons, List.length_append, List.length_map, List.length_nil, hM.vl] at j
  unfold caseT
  omega
theorem isC_ent {g : Got} (h : isC g = true) : (∀ xs ∈ (toMo g).wor, Ent xs) ∧ ∀ own ∈ (toMo g).vie, own.length = (toMo g).n ∧ ∀ xs ∈ own, Ent xs := by
  have I := isC_mo h
  unfold isC isM at h
  simp only [Bool.and_eq_true, decide_eq_true_eq] at h
  obtain ⟨⟨h0, h1, ⟨h2, h3⟩, h4, h5⟩, h6⟩ := h
  unfold areV at h5
  simp only [Bool.and_eq_true, decide_eq_true_eq] at h5
  obtain ⟨v1, v2, v3⟩ := h5
  have f4 := I.f
  have ef : (toMo g).facts = g.a1.getD 0 := rfl
  have en := I.n
  have n2 := I.n2
  refine ⟨fun xs hx => ?_, fun own ho => ⟨I.ol own ho, fun xs hx => ?_⟩⟩
  · obtain ⟨r, hr, rfl⟩ := List.mem_map.mp hx
    have q := (nums_is (areN_all (List.all_eq_true.mp h4 r hr)).2).1
    exact fun x hx => by have := q x hx; omega
  · obtain ⟨r, hr, rfl⟩ := List.mem_map.mp ho
    obtain ⟨y, hy, rfl⟩ := List.mem_map.mp hx
    have q := (nums_is (areN_all (List.all_eq_true.mp v3 y (List.mem_flatten.mpr ⟨r, hr, hy⟩))).2).1
    exact fun x hx => by have := q x hx; omega
def Good (T : Str) (M : Mo) (w : Nat) : Prop := M.Ok ∧ w < M.n ∧ M.n ≤ 100 ∧ T = caseT M w
section
variable {f : Str → Option Nat} {B : Nat} (R : Rdr f B)
include R
theorem rd_good {T : Str} {g : Got} (hT : T.length ≤ 540) (h : rdG f T = some g) (c : isC g = true) : Good T (toMo g) (g.last.getD 0) := by
  have I := isC_mo c
  have e := rd_is R h c
  have E := isC_ent c
  have q := caseT_ge (w := (g.last.getD 0 : Nat)) E.1 E.2 (fun z => by
    have := I.vl
    have m1 := I.m1
    rw [z] at this; simp at this; omega)
  rw [← e] at q
  have hn : (toMo g).n ≤ 100 := by omega
  exact ⟨I.ok (by omega), I.w, hn, e⟩
end
theorem isC_got {M : Mo} (hM : M.Ok) {w : Nat} (hw : w < M.n) : isC (gotOf M w) = true := by
  have a := c_is_case 0 M hM w hw [] rfl
  have n60 := hM.n60
  have sg : (gotOf M w).Sm := by
    refine ⟨?_, fun x hx => ?_, ?_, fun own ho x hx => ?_⟩
    · show (M.wor.map onOf).length ≤ _
      rw [List.length_map]
      have : M.wor.length = M.n := rfl
      omega
    · obtain ⟨r, hr, rfl⟩ := List.mem_map.mp hx
      have := (nums_txt (hM.wo r hr) (by have := hM.f4; omega)).1
      unfold onOf
      rw [List.length_map]; omega
    · show (M.vie.map fun r => r.map onOf).length ≤ _
      rw [List.length_map, hM.vl]
      have := hM.m3; omega
    · obtain ⟨r, hr, rfl⟩ := List.mem_map.mp ho
      obtain ⟨y, hy, rfl⟩ := List.mem_map.mp hx
      have := (nums_txt (hM.vo r hr y hy) n60).1
      unfold onOf
      rw [List.length_map]; omega
  have b := c_is_caseO 0 (gotOf M w) sg [] rfl
  rw [gotOf_d hM] at b
  have a' : Fs 5 i_is_case [.d (caD M w)] [] = .ok (.d (.bool true)) [] := a
  have b' : Fs 5 i_is_case [.d (caD M w)] [] = .ok (.d (.bool (isC (gotOf M w)))) [] := b
  rw [a'] at b'
  have := b'
  simp only [R.ok.injEq, Val.d.injEq, PyData.bool.injEq, and_true] at this
  exact this.symm
theorem read_good {T : Str} {M : Mo} {w : Nat} (hM : M.Ok) (hw : w < M.n) (e : T = caseT M w) (st : Sto) : rdR T st = .ok (.d (caD M w)) st := by
  have n60 := hM.n60
  have h := rd_of rdr_P hM hw (by omega) (by decide)
  unfold rdR
  rw [e, h]
  simp only [isC_got hM hw, if_true, gotOf_d hM]
theorem read_bad {T : Str} (hT : T.length ≤ 540) (h : ∀ M w, ¬ Good T M w) (st : Sto) : rdR T st = .exc ⟨11, none⟩ st := by
  unfold rdR
  split
  · rename_i g hg
    by_cases c : isC g = true
    · exact absurd (rd_good rdr_P hT hg c) (h _ _)
    · rw [if_neg c]
  · rfl
def lawD (T : Str) : D := match rdL T with
  | some g => if isC g = true then g.d else .none
  | none => .none
theorem law_good {T : Str} {M : Mo} {w : Nat} (h : Good T M w) : lawD T = caD M w := by
  obtain ⟨hM, hw, hn, e⟩ := h
  have r := rdG_L (k := w) (rd_of rdr_L hM hw hn (by decide)) rfl
  unfold lawD
  rw [e, r]
  simp only [isC_got hM hw, if_true, gotOf_d hM]
theorem law_bad {T : Str} (hT : T.length ≤ 540) (h : ∀ M w, ¬ Good T M w) : lawD T = .none := by
  unfold lawD
  split
  · rename_i g hg
    by_cases c : isC g = true
    · exact absurd (rd_good rdr_L hT (rdL_G hg) c) (h _ _)
    · rw [if_neg c]
  · rfl
end Lw
end

section
set_option maxRecDepth 100000
set_option maxHeartbeats 4000000
namespace Lw
open PySem PySem.Spec L2 Mi
/-! ### data that is plain and not deep -/
theorem pl_all {k : Nat} : ∀ {xs : List D}, (∀ x ∈ xs, x.plain = true ∧ x.depth ≤ k) → PyData.plainAll xs = true ∧ PyData.depthAll xs ≤ k
  | [], _ => ⟨rfl, Nat.zero_le _⟩
  | x :: xs, h => by
    have a := h x List.mem_cons_self
    have b := pl_all fun y hy => h y (List.mem_cons_of_mem _ hy)
    exact ⟨by simp only [PyData.plainAll, a.1, b.1, Bool.and_self], by simp only [PyData.depthAll]; omega⟩
theorem pl_tup {k : Nat} {xs : List D} (h : ∀ x ∈ xs, x.plain = true ∧ x.depth ≤ k) : (PyData.tuple xs).plain = true ∧ (PyData.tuple xs).depth ≤ k + 1 := by
  have a := pl_all h
  exact ⟨by simpa only [PyData.plain] using a.1, by simp only [PyData.depth]; omega⟩
theorem pl_int (i : Int) : (PyData.int i).plain = true ∧ (PyData.int i).depth ≤ 0 := ⟨rfl, Nat.le_refl _⟩
theorem pl_mono {x : D} {a b : Nat} (h : x.plain = true ∧ x.depth ≤ a) (l : a ≤ b) : x.plain = true ∧ x.depth ≤ b := ⟨h.1, Nat.le_trans h.2 l⟩
theorem pl_nums (xs : List Int) : (numsD xs).plain = true ∧ (numsD xs).depth ≤ 1 := pl_tup fun x hx => by
  obtain ⟨i, _, rfl⟩ := List.mem_map.mp hx
  exact pl_int i
theorem pl_own (own : List (List Int)) : (ownD own).plain = true ∧ (ownD own).depth ≤ 2 := pl_tup fun x hx => by
  obtain ⟨i, _, rfl⟩ := List.mem_map.mp hx
  exact pl_nums i
theorem pl_views (v : List (List (List Int))) : (viewsD v).plain = true ∧ (viewsD v).depth ≤ 3 := pl_tup fun x hx => by
  obtain ⟨i, _, rfl⟩ := List.mem_map.mp hx
  exact pl_own i
theorem pl_mo (M : Mo) : M.d.plain = true ∧ M.d.depth ≤ 4 := by
  unfold Mo.d
  refine pl_tup fun x hx => ?_
  simp only [List.mem_cons, List.not_mem_nil, or_false] at hx
  rcases hx with rfl | rfl | rfl | rfl
  · exact pl_mono (pl_int _) (by omega)
  · exact pl_mono (pl_int _) (by omega)
  · refine pl_mono (pl_own M.wor) (by omega)
  · exact pl_views _
theorem pl_ca (M : Mo) (w : Nat) : (caD M w).plain = true ∧ (caD M w).depth ≤ 5 := by
  unfold caD
  refine pl_tup fun x hx => ?_
  simp only [List.mem_cons, List.not_mem_nil, or_false] at hx
  rcases hx with rfl | rfl
  · exact pl_mo M
  · exact pl_mono (pl_int _) (by omega)
theorem ne_pl {x : D} {k : Nat} (h : x.plain = true ∧ x.depth ≤ k) (hk : k ≤ 150) (st : Sto) : vNe (.d x) (.d x) st = some (.d (.bool false), st) := by
  have f : fits x x = true := by unfold fits; simp [h.1]; omega
  simp only [vNe, datOf, f, if_true, PySem.SeqAt.eqv_refl_plain x h.1, Bool.not_true]
theorem eq_pl {x : D} {k : Nat} (h : x.plain = true ∧ x.depth ≤ k) (hk : k ≤ 150) (st : Sto) : vEq (.d x) (.d x) st = some (.d (.bool true), st) := by
  have f : fits x x = true := by unfold fits; simp [h.1]; omega
  simp only [vEq, datOf, f, if_true, PySem.SeqAt.eqv_refl_plain x h.1]
end Lw
end

section
set_option maxRecDepth 100000
set_option maxHeartbeats 1000000
namespace Lw
open PySem PySem.Spec L2 Mi
/-! ### _law_parse, _law_ask -/
theorem ix_lastG {l : List Str} (h : l ≠ []) (st : Sto) : vIx (.d (.list (l.map PyData.str))) (.d (.int (-1))) st = some (.d (.str (l.getLast h)), st) := by
  have e : l.map PyData.str = (l.dropLast.map PyData.str) ++ [PyData.str (l.getLast h)] := by
    conv => lhs; rw [← List.dropLast_concat_getLast h]
    simp
  have q := ix_last (l.dropLast.map PyData.str) (PyData.str (l.getLast h))
  rw [← e] at q
  simp only [vIx, sqOf, lsOf, q, Option.map_some]
theorem cut_tl {α : Type} (a : α) (b : List α) : cut (a :: b) (some 1) none = b := by
  unfold cut
  simp [HT.sIx]
theorem c_law_parse (n : Nat) (T : Str) (hT : T.length ≤ 540) (st : Sto) (ok : Okk st) : Fs (n + 6) i__law_parse [.d (.str T)] st = .ok (.d (lawD T)) st := by
  have sp : ∀ a1 a2 a3 a4 a5 a6 a7, eSplit (eVar 0) (eC (.str " | ")) [some (.d (.str T)), a1, a2, a3, a4, a5, a6, a7] st = .ok (.d (.list ((Txt.split T " | ").map .str))) st := fun a1 a2 a3 a4 a5 a6 a7 => split_ok rfl (by decide +kernel) (by omega)
  have ne := split_ne T " | "
  have ps : ∀ w ∈ Txt.split T " | ", w.length ≤ 540 := fun w hw => Nat.le_trans (PyProof.Rows.part_short hw) hT
  have pn := PyProof.Rows.split_le T " | "
  have lw : ∀ w : Str, w.length ≤ 540 → Fs (n + 5) i__law_numbers [.d (.str w)] st = .ok (.d (onD (nsF nL w))) st := fun w hw => c_law_numbers (n + 4) w (by omega) st ok
  have bo : ∀ x : ON, bLen [.d (onD x)] st = some (.d (.int (x.length : Nat)), st) := fun x => by simp only [onD, bLen, lenOf, sqOf, lsOf, Option.map_some, List.length_map]
  rw [e__law_parse]
  unfold lawD rdL
  cases hs : Txt.split T " | " with
  | nil => exact absurd hs ne
  | cons p0 rest =>
    rw [hs] at sp ps pn
    have bp : bLen [.d (.list ((p0 :: rest).map PyData.str))] st = some (.d (.int ((p0 :: rest).length : Nat)), st) := by simp only [bLen, lenOf, sqOf, lsOf, Option.map_some, List.length_map]
    have f0 := ix_firstS (a := p0) (l := rest) st
    have fl := ix_lastG (l := p0 :: rest) (by simp) st
    have n0 := lw p0 (ps p0 (by simp))
    have n1 := lw ((p0 :: rest).getLast (by simp)) (ps _ (List.getLast_mem _))
    match rest, hs with
    | [], hs =>
      have lt : decide (((1 : Nat) : Int) < 3) = true := by decide
      simp! only [ssE_ok, m__law_parse, sp, f0, fl, n0, n1, setVs, bp, lt, fin_d st ok]
    | [r0], hs =>
      have lt : decide (((2 : Nat) : Int) < 3) = true := by decide
      simp! only [ssE_ok, m__law_parse, sp, f0, fl, n0, n1, setVs, bp, lt, fin_d st ok]
    | r0 :: x :: xs, hs =>
      have lt : decide (((xs.length + 1 + 1 + 1 : Nat) : Int) < 3) = false := decide_eq_false (by omega)
      have gl : (p0 :: r0 :: x :: xs).getLast (by simp) = (x :: xs).getLast (by simp) := by simp
      rw [gl] at fl n1
      obtain ⟨lst, hl⟩ : ∃ l : Str, l = (x :: xs).getLast (by simp) := ⟨_, rfl⟩
      simp only [← hl] at fl n1 ⊢
      have e0 : vNe (.d (.int ((nsF nL p0).length : Nat))) (.d (.int 2)) st = some (.d (.bool (!decide ((nsF nL p0).length = 2))), st) := ne_nat (nsF nL p0).length 2 st
      have e1 : vNe (.d (.int ((nsF nL lst).length : Nat))) (.d (.int 1)) st = some (.d (.bool (!decide ((nsF nL lst).length = 1))), st) := ne_nat (nsF nL lst).length 1 st
      by_cases q1 : (nsF nL p0).length = 2
      · rw [decide_eq_true q1] at e0
        obtain ⟨a0, a1, ea⟩ : ∃ a0 a1, nsF nL p0 = [a0, a1] := by
          match h : nsF nL p0, q1 with
          | [a0, a1], _ => exact ⟨a0, a1, rfl⟩
        by_cases q2 : (nsF nL lst).length = 1
        · rw [decide_eq_true q2] at e1
          obtain ⟨l, el⟩ : ∃ l, nsF nL lst = [l] := by
            match h : nsF nL lst, q2 with
            | [l], _ => exact ⟨l, rfl⟩
          have dls : (r0 :: (x :: xs).dropLast) = (r0 :: x :: xs).dropLast := by simp
          have hd : ∀ w ∈ r0 :: (x :: xs).dropLast, w.length ≤ 540 := fun w hw => ps w (by
            rw [dls] at hw
            exact List.mem_cons_of_mem _ ((List.dropLast_sublist _).subset hw))
          have hdl : (r0 :: (x :: xs).dropLast).length ≤ 545 := by simp at pn ⊢; omega
          have sl : vSl (.d (.list ((p0 :: r0 :: x :: xs).map PyData.str))) (some 1) (some (-1)) st = some (.d (.list ((r0 :: (x :: xs).dropLast).map PyData.str)), st) := by
            have c := cut_mid (PyData.str p0) ((r0 :: x :: xs).map PyData.str) (by simp)
            rw [← List.map_cons] at c
            simp only [vSl, lsOf, c, dls, List.map_dropLast]
          have sm : small ((r0 :: (x :: xs).dropLast).map PyData.str).length = true := small_le _ (by rw [List.length_map]; omega)
          have c1 := fun a3 => compL_mp (st := st) (tg := .nm 6) (tt := kYes) (ee := eCB bTuple (aCons (eLc [7] (.nm 7) (iSeq (eSplit (eVar 6) (eC (.str ", ")))) kYes (eCl 1 (Fs (n + 5) i__law_numbers) (aCons (eVar 7) aNil))) aNil)) (env := [some (.d (.str T)), some (.d (.list ((p0 :: r0 :: x :: xs).map .str))), some (.d (onD (nsF nL p0))), a3, none, none, none, none]) PyData.str (fun w => rwD (rwF nL w)) (r0 :: (x :: xs).dropLast) (fun w hw => ⟨_, rfl, rfl, by
            have wl := hd w hw
            have sl2 := PyProof.Rows.split_le w ", "
            have sm2 : small ((Txt.split w ", ").map PyData.str).length = true := small_le _ (by rw [List.length_map]; omega)
            have sp2 : ∀ a7, eSplit (eVar 6) (eC (.str ", ")) [some (.d (.str T)), some (.d (.list ((p0 :: r0 :: x :: xs).map .str))), some (.d (onD (nsF nL p0))), a3, none, none, some (.d (.str w)), a7] st = .ok (.d (.list ((Txt.split w ", ").map .str))) st := fun a7 => split_ok rfl (by decide +kernel) (by omega)
            have c2 := compL_mp (st := st) (tg := .nm 7) (tt := kYes) (ee := eCl 1 (Fs (n + 5) i__law_numbers) (aCons (eVar 7) aNil)) (env := [some (.d (.str T)), some (.d (.list ((p0 :: r0 :: x :: xs).map .str))), some (.d (onD (nsF nL p0))), a3, none, none, some (.d (.str w)), none]) PyData.str (fun v => onD (nsF nL v)) (Txt.split w ", ") (fun v hv => ⟨_, rfl, rfl, by
              have := PyProof.Rows.part_short hv
              have := lw v (by omega)
              simp! only [ssE_ok, this]⟩)
            simp! only [ssE_ok, sp2, sqS, sm2, c2, btS]
            unfold rwD rwF
            rw [List.map_map]
            rfl⟩)
          obtain ⟨g, hg⟩ : ∃ g : Got, g = ⟨a0, a1, rwF nL r0, (x :: xs).dropLast.map (rwF nL), l⟩ := ⟨_, rfl⟩
          have sg : g.Sm := by
            have l0 : r0.length ≤ 540 := hd r0 (by simp)
            rw [hg]
            refine ⟨?_, fun y hy => ?_, ?_, fun own ho y hy => ?_⟩
            · have := rwF_len nL r0
              show (rwF nL r0).length ≤ _; omega
            · have := rwF_mem (f := nL) (t := r0) hy; omega
            · show ((x :: xs).dropLast.map (rwF nL)).length ≤ _
              rw [List.length_map]; simp at hdl ⊢; omega
            · obtain ⟨w, hw, rfl⟩ := List.mem_map.mp ho
              have := rwF_mem hy
              have := hd w (List.mem_cons_of_mem _ hw)
              omega
          have ic := c_is_caseO n g sg st ok
          have hr : rdL T = some g := by
            unfold rdL
            rw [hs]
            simp only [ea, ← hl, el, hg]
          have i0 : vIx (.d (onD [a0, a1])) (.d (.int 0)) st = some (.d (oD a0), st) := rfl
          have i1 : vIx (.d (onD [a0, a1])) (.d (.int 1)) st = some (.d (oD a1), st) := rfl
          have i2 : vIx (.d (onD [l])) (.d (.int 0)) st = some (.d (oD l), st) := rfl
          have i3 : vIx (.d (.list ((r0 :: (x :: xs).dropLast).map fun w => rwD (rwF nL w)))) (.d (.int 0)) st = some (.d (rwD (rwF nL r0)), st) := by
            have q : atI ((r0 :: (x :: xs).dropLast).map fun w => rwD (rwF nL w)) ((0 : Nat) : Int) = some (rwD (rwF nL r0)) := atI_nat rfl
            simp only [vIx, sqOf, lsOf]
            exact congrArg (Option.map fun v => (Val.d v, st)) q
          have s3 : vSl (.d (.list ((r0 :: (x :: xs).dropLast).map fun w => rwD (rwF nL w)))) (some 1) none st = some (.d (.list ((x :: xs).dropLast.map fun w => rwD (rwF nL w))), st) := by
            have q : cut ((r0 :: (x :: xs).dropLast).map fun w => rwD (rwF nL w)) (some 1) none = (x :: xs).dropLast.map fun w => rwD (rwF nL w) := by
              rw [List.map_cons]
              exact cut_tl _ _
            simp only [vSl, lsOf, q]
          have dm : PyData.tuple [oD a0, oD a1, rwD (rwF nL r0), .tuple ((x :: xs).dropLast.map fun w => rwD (rwF nL w))] = g.m := by
            rw [hg]; unfold Got.m vwD
            simp only [List.map_map]
            rfl
          have dd : PyData.tuple [g.m, oD l] = g.d := by rw [hg]; rfl
          have s4 : small 4 = true := rfl
          have s2 : small 2 = true := rfl
          rw [ea] at n0
          rw [el] at n1
          have e0 : vNe (.d (.int ((2 : Nat) : Int))) (.d (.int 2)) st = some (.d (.bool false), st) := rfl
          have e1 : vNe (.d (.int ((1 : Nat) : Int))) (.d (.int 1)) st = some (.d (.bool false), st) := rfl
          simp only [ea, el] at c1 ⊢
          rw [← hg]
          cases qc : isC g with
          | true =>
            rw [qc] at ic
            have G := rd_good rdr_L hT (rdL_G hr) qc
            obtain ⟨hM, hw, hn, e⟩ := G
            have I := isC_mo qc
            have tx := c_law_text (n + 3) (toMo g) hM (g.last.getD 0) hw st ok
            rw [← I.d, ← e] at tx
            have eq := wEq T T st
            rw [beq_self_eq_true] at eq
            simp! only [ssE_ok, m__law_parse, sp, f0, fl, n0, n1, setVs, bp, lt, bo, e0, e1, Bool.not_true, sl, sqS, sm, c1, i0, i1, i2, i3, s3, btS, toDs, s4, dm, s2, dd, ic, tx, eq, fin_d st ok]
          | false =>
            rw [qc] at ic
            simp! only [ssE_ok, m__law_parse, sp, f0, fl, n0, n1, setVs, bp, lt, bo, e0, e1, Bool.not_true, sl, sqS, sm, c1, i0, i1, i2, i3, s3, btS, toDs, s4, dm, s2, dd, ic, fin_d st ok]
        · rw [decide_eq_false q2] at e1
          simp! only [ssE_ok, m__law_parse, sp, f0, fl, n0, n1, setVs, bp, lt, bo, e0, e1, Bool.not_true, Bool.not_false, fin_d st ok]
          split
          · rename_i g hg
            split at hg
            · rename_i h; rw [h] at q2; exact absurd rfl q2
            · cases hg
          · rfl
      · rw [decide_eq_false q1] at e0
        simp! only [ssE_ok, m__law_parse, sp, f0, fl, n0, n1, setVs, bp, lt, bo, e0, Bool.not_false, fin_d st ok]
        split
        · rename_i g hg
          split at hg
          · rename_i h _; rw [h] at q1; exact absurd rfl q1
          · cases hg
        · rfl
theorem pick31 {e : Exn} {st : Sto} (h : insOk st.length st = true) : hPick [(0, hWh)] e st = some (some (whichD e.cls)) := by simp [hPick, isSub, hWh, h]
def refD : D := .tuple [.str "refused", .int 10]
theorem c_ask_good (n : Nat) {T : Str} (hT : T.length ≤ 400000) {M : Mo} {w : Nat} (hM : M.Ok) (hw : w < M.n) (e : T = caseT M w) (st : Sto) (ok : Okk st) : Fs (n + 7) i__law_ask [.d (.str T)] st = .ok (.d (caD M w)) st := by
  have r := c_read n T hT st ok
  rw [read_good hM hw e] at r
  rw [e__law_ask]
  simp! only [ssE_ok, m__law_ask, r, fin_d st ok]
theorem c_ask_ex (n : Nat) (x : D) (st : Sto) (ok : Okk st) (r : Fs (n + 6) i_read_case [.d x] st = .exc ⟨11, none⟩ st) : Fs (n + 7) i__law_ask [.d x] st = .ok (.d refD) st := by
  have z : insOk st.length st = true := ok
  rw [e__law_ask]
  simp! only [ssE_ok, m__law_ask, r]
  rw [tryS_ex (x := whichD 11) (by decide) (by simp) (pick31 z)]
  simp! only [ssE_ok, fin_d st ok]
  rfl
theorem c_ask_bad (n : Nat) {T : Str} (hT : T.length ≤ 540) (h : ∀ M w, ¬ Good T M w) (st : Sto) (ok : Okk st) : Fs (n + 7) i__law_ask [.d (.str T)] st = .ok (.d refD) st := by
  refine c_ask_ex n _ st ok ?_
  rw [c_read n T (by omega) st ok, read_bad hT h]
theorem c_ask_con (n : Nat) {T : Str} (hT : T.length ≤ 400000) (h : (match rdG nP T with | some g => isC g | none => false) = false) (st : Sto) (ok : Okk st) : Fs (n + 7) i__law_ask [.d (.str T)] st = .ok (.d refD) st := by
  refine c_ask_ex n _ st ok ?_
  rw [c_read n T hT st ok]
  unfold rdR
  split
  · rename_i g hg
    rw [hg] at h
    have h : isC g = false := h
    rw [h]; rfl
  · rfl
theorem c_read_no (n : Nat) (x : D) {t : String} (ht : ∀ st, tyOf (.d x) st = some t) (h : kitB t "str" = some false) (st : Sto) (ok : Okk st) : Fs (n + 1) i_read_case [.d x] st = .exc ⟨11, none⟩ st := by
  have ok' : insOk st.length (st.take st.length) = true := by rw [List.take_length]; exact ok
  rw [e_read_case]
  simp! only [ssE_ok, m_read_case, ht, h]
  rw [fin0_ex ok', List.take_length]
end Lw
end

section
set_option maxRecDepth 100000
set_option maxHeartbeats 4000000
namespace Lw
open PySem PySem.Spec L2 Mi
theorem inner_ok (n : Nat) (ns : List Int) (hn : ns.length ≤ 63) (P : Sto) (hP : pok P = true) (made : List D) (junk : Sto) (hj : noIns junk = true) (many : Nat) (hm : many ≤ 60) (kind : Int) (a2 a3 a5 a6 a8 a12 a13 : Option Val) : ∀ (l : List Nat), (∀ w ∈ l, w < many) → ∀ (own : List (List Int)) (xs : List D) (a10 a11 : Option Val), xs.length + l.length * 60 < 900000 → own.length + l.length < 900000 → (∀ x ∈ own, numsOk many x = true) →
    ∃ (own' : List (List Int)) (xs' : List D) (b10 b11 : Option Val), own'.length = own.length + l.length ∧ (∀ x ∈ own', numsOk many x = true) ∧ xs'.length ≤ xs.length + l.length * 60 ∧
      forL (.nm 10) (inBody n) (l.map fun k : Nat => PyData.int (0 + (k : Nat))) [some (.s ns), some (.r 0), a2, a3, some (.d (.int many)), a5, a6, some (.d (.int kind)), a8, some (.r (P.length + 1 + 1 + junk.length)), a10, a11, a12, a13] (ST P xs made (junk ++ [.lst (own.map numsD)])) =
        .ok (.nx [some (.s ns), some (.r 0), a2, a3, some (.d (.int many)), a5, a6, some (.d (.int kind)), a8, some (.r (P.length + 1 + 1 + junk.length)), b10, b11, a12, a13]) (ST P xs' made (junk ++ [.lst (own'.map numsD)])) := by
  intro l
  induction l with
  | nil => intro _ own xs a10 a11 _ _ ho; exact ⟨own, xs, a10, a11, rfl, ho, by simp, rfl⟩
  | cons w l ih =>
    intro hw own xs a10 a11 h1 h2 ho
    rw [List.length_cons] at h1 h2
    have okA : ∀ ys, Okk (.lst ys :: (P ++ .lst made :: (junk ++ [.lst (own.map numsD)]))) := fun ys => st_okk hP ys made (by rw [noIns_app, hj]; rfl)
    obtain ⟨l', xs1, s1, s2, s3⟩ := filter_drawn n ns hn 3 (by decide) 13 (by decide) [some (.s ns), some (.r 0), a2, a3, some (.d (.int many)), a5, a6, some (.d (.int kind)), a8, some (.r (P.length + 1 + 1 + junk.length)), some (.d (.int (0 + (w : Nat)))), a11, a12, none] rfl rfl (by simp) (List.range many) xs (P ++ .lst made :: (junk ++ [.lst (own.map numsD)])) (okA xs) (by rw [List.length_range]; omega)
    rw [List.length_range] at s2
    have hwm : w < many := hw w List.mem_cons_self
    -- the row that is made
    obtain ⟨row, hrow⟩ : ∃ row, row = sortS ((l'.map fun k : Nat => (k : Int)) ++ (if kind = 1 then [(w : Int)] else [])) := ⟨_, rfl⟩
    have rmem : ∀ x ∈ (l'.map fun k : Nat => (k : Int)) ++ (if kind = 1 then [(w : Int)] else []), 0 ≤ x ∧ x < (many : Int) := fun x hx => by
      rcases List.mem_append.mp hx with q | q
      · obtain ⟨k, hk, rfl⟩ := List.mem_map.mp q
        have := List.mem_range.mp (s1.mem hk)
        omega
      · split at q
        · simp at q; omega
        · cases q
    have rok : numsOk many row = true := by
      rw [hrow]
      exact nums_of (sortS_all _).1 fun x hx => rmem x (((sortS_all _).2 x).mp hx)
    have hl' : l'.length ≤ 60 := by have := s1.length_le; rw [List.length_range] at this; omega
    obtain ⟨own', xs', b10, b11, g1, g2, g3, g4⟩ := ih (fun v hv => hw v (List.mem_cons_of_mem _ hv)) (own ++ [row]) xs1 (some (.d (.int (0 + (w : Nat))))) (some (.d (.list (l'.map fun k : Nat => PyData.int (k : Nat))))) (by omega) (by simp; omega) (fun x hx => by
      rcases List.mem_append.mp hx with q | q
      · exact ho x q
      · simp at q; subst q; exact rok)
    refine ⟨own', xs', b10, b11, by rw [g1]; simp; omega, g2, by rw [List.length_cons]; omega, ?_⟩
    rw [List.map_cons]
    have r1 := rng many (by omega)
    have sm : small ((List.range many).map fun k : Nat => PyData.int (0 + (k : Nat))).length = true := small_le _ (by simp; omega)
    have e1 : ∀ st : Sto, vEq (.d (.int kind)) (.d (.int 1)) st = some (.d (.bool (decide (kind = 1))), st) := fun st => by
      simp only [vEq, datOf, fits_int, if_true, eqv_int]
      by_cases q : kind = 1 <;> simp [q]
    have e2 : ∀ st : Sto, bInt [.d (.bool (decide (kind = 1)))] st = some (.d (.int (if kind = 1 then 1 else 0)), st) := fun st => by
      by_cases q : kind = 1 <;> simp [q, bInt]
    have e3 : ∀ st : Sto, vMul (.d (.list [.int (0 + (w : Nat))])) (.d (.int (if kind = 1 then 1 else 0))) st = some (.d (.list (if kind = 1 then [.int (w : Nat)] else [])), st) := fun st => by
      by_cases q : kind = 1 <;> simp [q, vMul, lsOf]
    have e4 : ∀ st : Sto, vAdd (.d (.list (l'.map fun k : Nat => PyData.int (k : Nat)))) (.d (.list (if kind = 1 then [.int (w : Nat)] else []))) st = some (.d (.list (((l'.map fun k : Nat => (k : Int)) ++ (if kind = 1 then [(w : Int)] else [])).map .int)), st) := fun st => by
      have : small (l'.length + 1) = true := small_le _ (by omega)
      have : small (l'.length) = true := small_le _ (by omega)
      by_cases q : kind = 1 <;> simp [q, vAdd, lsOf, *] <;> rfl
    have e5 : ∀ st : Sto, srtD (((l'.map fun k : Nat => (k : Int)) ++ (if kind = 1 then [(w : Int)] else [])).map .int) st = .ok (.d (.list (row.map .int))) st := fun st => by
      have hl2 : (((l'.map fun k : Nat => (k : Int)) ++ (if kind = 1 then [(w : Int)] else [])).map PyData.int).length ≤ 61 := by
        rw [List.length_map, List.length_append, List.length_map]
        split <;> simp <;> omega
      unfold srtD
      rw [intsOf_ints]
      dsimp only
      rw [← hrow]
      have := nums_len rok
      exact if_pos ⟨by omega, by omega⟩
    have e6 : ((own.map numsD).length < 1000000) := by rw [List.length_map]; omega
    have e7 : own.map numsD ++ [PyData.tuple (row.map .int)] = (own ++ [row]).map numsD := by simp [numsD]
    have bt : ∀ (ys : List D) (st : Sto), bTuple [.d (.list ys)] st = some (.d (.tuple ys), st) := fun ys st => rfl
    simp! only [ssE_ok, forL, inBody, r1, and_self, Int.toNat_natCast, sm, s3]
    simp! only [ssE_ok, toDs, show small 1 = true from rfl, e1, e2, e3, e4, sqOf, lsOf, e5, bt]
    have gg : (MO.lst xs1 :: (P ++ .lst made :: (junk ++ [.lst (own.map numsD)])))[P.length + 1 + 1 + junk.length]? = some (.lst (own.map numsD)) := st_get2 P xs1 made junk _
    have gs : (MO.lst xs1 :: (P ++ .lst made :: (junk ++ [.lst (own.map numsD)]))).set (P.length + 1 + 1 + junk.length) (.lst (own.map numsD ++ [PyData.tuple (row.map .int)])) = ST P xs1 made (junk ++ [.lst ((own ++ [row]).map numsD)]) := by
      rw [e7]; exact st_set2 P xs1 made junk _ _
    simp only [gg, e6, if_true, gs, dropS_ok]
    exact g4
end Lw
end

section
set_option maxRecDepth 100000
set_option maxHeartbeats 4000000
namespace Lw
open PySem PySem.Spec L2 Mi
abbrev mkRow : EE := eCB bTuple (aCons (eLc [13] (.nm 13) (iRange (aCons (eVar 4) aNil)) (eTst (eOp vEq (eOp vIx (eVar 8) (eVar 13)) (eVar 12))) (eVar 13)) aNil)
abbrev mindBody (n : Nat) : ES := sSeq (sSet 7 (drawE n 3))
    (sIf (eTst (eOp vEq (eVar 7) (eC (.int 0)))) (sSeq (sSet 8 (eLc [10] (.nm 10) (iRange (aCons (eVar 4) aNil)) kYes (drawE n 3)))
    (sExpr (eAppend (eVar 5) (eCB bTuple (aCons (eLc [12] (.nm 12) (iSeq (eVar 8)) kYes mkRow) aNil))))) (sSeq (sSet 9 (eLstR aNil))
    (sSeq (sFor (.nm 10) (iRange (aCons (eVar 4) aNil)) (inBody n)) (sExpr (eAppend (eVar 5) (eCB bTuple (aCons (eVar 9) aNil)))))))
def rowOf (vs : List Int) (many : Nat) (mk : Int) : List Int := ((List.range many).filter fun k => decide (vs.getD k 0 = mk)).map fun k : Nat => (k : Int)
theorem row_ok (vs : List Int) (many : Nat) (hm : many ≤ 60) (hv : vs.length = many) (mk : Int) (env : Ev) (h4 : env[4]? = some (some (.d (.int many)))) (h8 : env[8]? = some (some (.d (.list (vs.map .int))))) (h12 : env[12]? = some (some (.d (.int mk)))) (hl : 13 < env.length) (st : Sto) : mkRow env st = .ok (.d (numsD (rowOf vs many mk))) st := by
  have g := compL_fl (st := st) (env := wipeE env [13]) (tg := .nm 13) (tt := eTst (eOp vEq (eOp vIx (eVar 8) (eVar 13)) (eVar 12))) (ee := eVar 13) (fun k : Nat => PyData.int (0 + (k : Nat))) (fun k : Nat => decide (vs.getD k 0 = mk)) (fun k : Nat => .int (k : Nat)) (List.range many) (by
    intro k hk
    have hk := List.mem_range.mp hk
    have e0 : (0 : Int) + (k : Int) = k := by omega
    have hl2 : 13 < (wipeE env [13]).length := by simp [wipeE]; exact hl
    have a8 : ((wipeE env [13]).set 13 (some (.d (.int (0 + (k : Nat))))))[8]? = some (some (.d (.list (vs.map .int)))) := by
      rw [List.getElem?_set_ne (by decide)]
      simp only [wipeE]
      rw [List.getElem?_set_ne (by decide)]; exact h8
    have a12 : ((wipeE env [13]).set 13 (some (.d (.int (0 + (k : Nat))))))[12]? = some (some (.d (.int mk))) := by
      rw [List.getElem?_set_ne (by decide)]
      simp only [wipeE]
      rw [List.getElem?_set_ne (by decide)]; exact h12
    have a13 : ((wipeE env [13]).set 13 (some (.d (.int (0 + (k : Nat))))))[13]? = some (some (.d (.int (0 + (k : Nat))))) := List.getElem?_set_self hl2
    have ix : vIx (.d (.list (vs.map .int))) (.d (.int (0 + (k : Nat)))) st = some (.d (.int (vs.getD k 0)), st) := by
      rw [e0]
      have : (vs.map PyData.int)[k]? = some (.int (vs.getD k 0)) := by
        rw [List.getElem?_map, List.getD_eq_getElem?_getD, List.getElem?_eq_getElem (by omega)]; rfl
      simp only [vIx, sqOf, lsOf, atI_nat this, Option.map_some]
    refine ⟨_, rfl, ?_, fun _ => ?_⟩
    · rw [eTst_eq, eOp_eq, eOp_eq, eVar_eq, a8, getv_ok, op1_ok, eVar_eq, a13, getv_ok, op2_ok, ix, R.of_some, op1_ok, eVar_eq, a12, getv_ok, op2_ok]
      simp only [vEq, datOf, fits_int, if_true, eqv_int, R.of_some, tst_ok]
      generalize vs.getD k 0 = z
      by_cases q : z = mk <;> simp [q]
    · rw [eVar_eq, a13, e0]; rfl)
  have r1 := rng many (by omega)
  have sm : small ((List.range many).map fun k : Nat => PyData.int (0 + (k : Nat))).length = true := small_le _ (by simp; omega)
  have bt : ∀ (ys : List D) (st : Sto), bTuple [.d (.list ys)] st = some (.d (.tuple ys), st) := fun ys st => rfl
  simp only [mkRow, eCB_eq, aCons_eq, eLc_eq, iRange_eq, eVar_eq, h4, getv_ok, aNil_eq, cons1_ok, cons2_ok, rangeI_ok, r1, and_self, if_true, Int.toNat_natCast, lcE_ok, sm, g, listD_ok, cb_ok, bt, R.of_some]
  simp only [numsD, rowOf, List.map_map]
  rfl
theorem rowOf_ok (vs : List Int) (many : Nat) (mk : Int) : numsOk many (rowOf vs many mk) = true := sub_nums many _ List.filter_sublist
theorem mind_ok (n : Nat) (ns : List Int) (hn : ns.length ≤ 63) (P : Sto) (hP : pok P = true) (many : Nat) (hm : many ≤ 60) (vie : List (List (List Int))) (hv : vie.length ≤ 100) (junk : Sto) (hj : noIns junk = true) (xs : List D) (hx : xs.length < 800000) (a2 a3 a6 a7 a8 a9 a10 a11 a12 a13 : Option Val) :
    ∃ (own : List (List Int)) (xs' : List D) (junk' : Sto) (b7 b8 b9 b10 b11 : Option Val), own.length = many ∧ (∀ x ∈ own, numsOk many x = true) ∧ noIns junk' = true ∧ xs'.length ≤ xs.length + 4000 ∧
      mindBody n [some (.s ns), some (.r 0), a2, a3, some (.d (.int many)), some (.r (P.length + 1)), a6, a7, a8, a9, a10, a11, a12, a13] (ST P xs (vie.map fun own => .tuple (own.map numsD)) junk) =
        .ok (.nx [some (.s ns), some (.r 0), a2, a3, some (.d (.int many)), some (.r (P.length + 1)), a6, b7, b8, b9, b10, b11, a12, a13]) (ST P xs' ((vie ++ [own]).map fun own => .tuple (own.map numsD)) junk') := by
  generalize hmade : (vie.map fun own : List (List Int) => PyData.tuple (own.map numsD)) = made
  have hml : made.length < 1000000 := by rw [← hmade, List.length_map]; omega
  obtain ⟨kind, k1, k2, hk⟩ := drawn n ns hn 3 (by decide) [some (.s ns), some (.r 0), a2, a3, some (.d (.int many)), some (.r (P.length + 1)), a6, a7, a8, a9, a10, a11, a12, a13] rfl rfl xs (P ++ .lst made :: junk) (st_okk hP xs made hj) (by omega)
  have r1 := rng many (by omega)
  have sm : small ((List.range many).map fun k : Nat => PyData.int (0 + (k : Nat))).length = true := small_le _ (by simp; omega)
  have bt : ∀ (ys : List D) (st : Sto), bTuple [.d (.list ys)] st = some (.d (.tuple ys), st) := fun ys st => rfl
  have e0 : ∀ st : Sto, vEq (.d (.int kind)) (.d (.int 0)) st = some (.d (.bool (decide (kind = 0))), st) := fun st => by
    simp only [vEq, datOf, fits_int, if_true, eqv_int]
    by_cases q : kind = 0 <;> simp [q]
  have gm : ∀ ys jk, (MO.lst ys :: (P ++ .lst made :: jk))[P.length + 1]? = some (.lst made) := fun ys jk => st_get P ys made jk
  have sm2 : ∀ ys jk m2, (MO.lst ys :: (P ++ .lst made :: jk)).set (P.length + 1) (.lst m2) = ST P ys m2 jk := fun ys jk m2 => st_set P ys made m2 jk
  have fold : ∀ own : List (List Int), made ++ [PyData.tuple (own.map numsD)] = (vie ++ [own]).map fun own => .tuple (own.map numsD) := fun own => by rw [← hmade]; simp
  by_cases q : kind = 0
  · obtain ⟨vs, xs1, s1, s2, s3⟩ := list_drawn n ns hn 3 (by decide) 10 (by decide) [some (.s ns), some (.r 0), a2, a3, some (.d (.int many)), some (.r (P.length + 1)), a6, some (.d (.int kind)), a8, a9, none, a11, a12, a13] rfl rfl ((List.range many).map fun k : Nat => PyData.int (0 + (k : Nat))) (xs ++ [.int 0]) (P ++ .lst made :: junk) (st_okk hP _ made hj) (by simp; omega)
    rw [List.length_map, List.length_range] at s1 s2
    have g := compL_mp (st := .lst xs1 :: (P ++ .lst made :: junk)) (tg := .nm 12) (tt := kYes) (ee := mkRow) (env := [some (.s ns), some (.r 0), a2, a3, some (.d (.int many)), some (.r (P.length + 1)), a6, some (.d (.int kind)), some (.d (.list (vs.map .int))), a9, a10, a11, none, a13]) PyData.int (fun mk => numsD (rowOf vs many mk)) vs (fun mk _ => ⟨_, rfl, rfl, row_ok vs many hm s1 mk _ rfl rfl rfl (by simp) _⟩)
    refine ⟨vs.map (rowOf vs many), xs1, junk, some (.d (.int kind)), some (.d (.list (vs.map .int))), a9, a10, a11, by simp [s1], fun x hx => by obtain ⟨mk, _, rfl⟩ := List.mem_map.mp hx; exact rowOf_ok vs many mk, hj, by rw [s2]; simp; omega, ?_⟩
    have sv : small (vs.map PyData.int).length = true := small_le _ (by rw [List.length_map]; omega)
    have e1 := e0 (.lst (xs ++ [.int 0]) :: (P ++ .lst made :: junk))
    rw [decide_eq_true q] at e1
    have f2 : made ++ [PyData.tuple (vs.map fun mk => numsD (rowOf vs many mk))] = (vie ++ [vs.map (rowOf vs many)]).map fun own => .tuple (own.map numsD) := by
      rw [← fold, List.map_map]; rfl
    simp only [mindBody, sSeq_eq, sSet_eq]
    rw [hk]
    simp! only [ssE_ok, e1, r1, and_self, Int.toNat_natCast, sm, s3, sv, g, bt, gm, hml, sm2, f2]
  · have e1 := e0 (.lst (xs ++ [.int 0]) :: (P ++ .lst made :: junk))
    rw [decide_eq_false q] at e1
    obtain ⟨own, xs', b10, b11, g1, g2, g3, g4⟩ := inner_ok n ns hn P hP made junk hj many hm kind a2 a3 (some (.r (P.length + 1))) a6 a8 a12 a13 (List.range many) (fun w hw => List.mem_range.mp hw) [] (xs ++ [.int 0]) a10 a11 (by rw [List.length_append, List.length_range, List.length_singleton]; omega) (by rw [List.length_nil, List.length_range]; omega) (fun x hx => by cases hx)
    rw [List.length_range] at g1 g3
    rw [List.length_append, List.length_singleton] at g3
    refine ⟨own, xs', junk ++ [.lst (own.map numsD)], some (.d (.int kind)), a8, some (.r (P.length + 1 + 1 + junk.length)), b10, b11, by simpa using g1, g2, by rw [noIns_app, hj]; rfl, by omega, ?_⟩
    have len : (MO.lst (xs ++ [.int 0]) :: (P ++ .lst made :: junk)).length = P.length + 1 + 1 + junk.length := by simp; omega
    have app : (MO.lst (xs ++ [.int 0]) :: (P ++ .lst made :: junk)) ++ [.lst []] = ST P (xs ++ [.int 0]) made (junk ++ [.lst (([] : List (List Int)).map numsD)]) := by simp [ST]
    have go : (ST P xs' made (junk ++ [.lst (own.map numsD)]))[P.length + 1 + 1 + junk.length]? = some (.lst (own.map numsD)) := st_get2 _ _ _ _ _
    have bt2 : bTuple [.r (P.length + 1 + 1 + junk.length)] (ST P xs' made (junk ++ [.lst (own.map numsD)])) = some (.d (.tuple (own.map numsD)), ST P xs' made (junk ++ [.lst (own.map numsD)])) := by
      simp only [bTuple, sqOf, lsOf, go, Option.map_some]
    have gm2 : (ST P xs' made (junk ++ [.lst (own.map numsD)]))[P.length + 1]? = some (.lst made) := st_get _ _ _ _
    have sm3 := st_set P xs' made (made ++ [PyData.tuple (own.map numsD)]) (junk ++ [.lst (own.map numsD)])
    rw [← fold own]
    simp only [mindBody, sSeq_eq, sSet_eq]
    rw [hk]
    simp! only [ssE_ok, e1, toDs, show small 0 = true from rfl, len, app, r1, and_self, Int.toNat_natCast, g4, bt2, gm2, hml, sm3]
end Lw
end

section
set_option maxRecDepth 100000
set_option maxHeartbeats 4000000
namespace Lw
open PySem PySem.Spec L2 Mi
theorem minds_ok (n : Nat) (ns : List Int) (hn : ns.length ≤ 63) (P : Sto) (hP : pok P = true) (many : Nat) (hm : many ≤ 60) (a2 a3 a12 a13 : Option Val) : ∀ (l : List D) (vie : List (List (List Int))) (junk : Sto) (xs : List D) (a6 a7 a8 a9 a10 a11 : Option Val), noIns junk = true → vie.length + l.length ≤ 100 → xs.length + l.length * 4000 < 800000 → (∀ own ∈ vie, own.length = many ∧ ∀ x ∈ own, numsOk many x = true) →
    ∃ (vie' : List (List (List Int))) (xs' : List D) (junk' : Sto) (b6 b7 b8 b9 b10 b11 : Option Val), vie'.length = vie.length + l.length ∧ (∀ own ∈ vie', own.length = many ∧ ∀ x ∈ own, numsOk many x = true) ∧ xs'.length ≤ xs.length + l.length * 4000 ∧
      forL (.nm 6) (mindBody n) l [some (.s ns), some (.r 0), a2, a3, some (.d (.int many)), some (.r (P.length + 1)), a6, a7, a8, a9, a10, a11, a12, a13] (ST P xs (vie.map fun own => .tuple (own.map numsD)) junk) =
        .ok (.nx [some (.s ns), some (.r 0), a2, a3, some (.d (.int many)), some (.r (P.length + 1)), b6, b7, b8, b9, b10, b11, a12, a13]) (ST P xs' (vie'.map fun own => .tuple (own.map numsD)) junk') := by
  intro l
  induction l with
  | nil => intro vie junk xs a6 a7 a8 a9 a10 a11 _ _ _ h; exact ⟨vie, xs, junk, a6, a7, a8, a9, a10, a11, rfl, h, by simp, rfl⟩
  | cons d l ih =>
    intro vie junk xs a6 a7 a8 a9 a10 a11 hj h1 h2 hv
    rw [List.length_cons] at h1 h2
    obtain ⟨own, xs1, junk1, b7, b8, b9, b10, b11, g1, g2, g3, g4, g5⟩ := mind_ok n ns hn P hP many hm vie (by omega) junk hj xs (by omega) a2 a3 (some (.d d)) a7 a8 a9 a10 a11 a12 a13
    obtain ⟨vie', xs', junk', c6, c7, c8, c9, c10, c11, k1, k2, k3, k4⟩ := ih (vie ++ [own]) junk1 xs1 (some (.d d)) b7 b8 b9 b10 b11 g3 (by simp; omega) (by omega) (fun o ho => by
      rcases List.mem_append.mp ho with q | q
      · exact hv o q
      · simp at q; subst q; exact ⟨g1, g2⟩)
    refine ⟨vie', xs', junk', c6, c7, c8, c9, c10, c11, by rw [k1]; simp; omega, k2, by rw [List.length_cons]; omega, ?_⟩
    simp only [forL, Tg.put, List.set_cons_succ, List.set_cons_zero]
    rw [g5]
    exact k4
theorem c_views (n : Nat) (ns : List Int) (hn : ns.length ≤ 63) (minds : Nat) (hmi : minds ≤ 3) (many : Nat) (hm : many ≤ 60) (j : Nat) (ws : List D) (hw : ws.length = many) (xs : List D) (P : Sto) (hP : pok P = true) (hj : (MO.lst xs :: P)[j]? = some (.lst ws)) (hx : xs.length < 700000) :
    ∃ (vie : List (List (List Int))) (xs' : List D), vie.length = minds ∧ (∀ own ∈ vie, own.length = many ∧ ∀ x ∈ own, numsOk many x = true) ∧ xs'.length ≤ xs.length + 12000 ∧
      Fs (n + 4) i__law_views [.s ns, .r 0, .d (.int minds), .r j] (.lst xs :: P) = .ok (.d (viewsD vie)) (.lst xs' :: P) := by
  obtain ⟨vie, xs', junk', b6, b7, b8, b9, b10, b11, k1, k2, k3, k4⟩ := minds_ok n ns hn P hP many hm (some (.d (.int minds))) (some (.r j)) none none ((List.range minds).map fun k : Nat => PyData.int (0 + (k : Nat))) [] [] xs none none none none none none rfl (by simp; omega) (by simp; omega) (fun o ho => by cases ho)
  rw [List.length_map, List.length_range] at k1 k3
  refine ⟨vie, xs', by simpa using k1, k2, by omega, ?_⟩
  rw [e__law_views]
  have r1 := rng minds (by omega)
  have e1 : bLen [.r j] (.lst xs :: P) = some (.d (.int many), .lst xs :: P) := by
    simp only [bLen, lenOf, sqOf, lsOf, hj, Option.map_some, hw]
  have len : (MO.lst xs :: P).length = P.length + 1 := rfl
  have app : (MO.lst xs :: P) ++ [.lst []] = ST P xs (([] : List (List (List Int))).map fun own => .tuple (own.map numsD)) [] := rfl
  have bt2 : bTuple [.r (P.length + 1)] (ST P xs' (vie.map fun own => .tuple (own.map numsD)) junk') = some (.d (viewsD vie), ST P xs' (vie.map fun own => .tuple (own.map numsD)) junk') := by
    simp only [bTuple, sqOf, lsOf, st_get, Option.map_some, viewsD]
  have ok : Okk (.lst xs' :: P) := hP
  have fin1 : fin (P.length + 1) (.d (viewsD vie)) (ST P xs' (vie.map fun own => .tuple (own.map numsD)) junk') = .ok (.d (viewsD vie)) (.lst xs' :: P) := fin_app (.lst xs' :: P) (.lst (vie.map fun own => .tuple (own.map numsD)) :: junk') ok _
  have bodyEq : (sFor (.nm 6) (iRange (aCons (eVar 2) aNil)) (mindBody n)) [some (.s ns), some (.r 0), some (.d (.int minds)), some (.r j), some (.d (.int many)), some (.r (P.length + 1)), none, none, none, none, none, none, none, none] ((MO.lst xs :: P) ++ [.lst []]) = .ok (.nx [some (.s ns), some (.r 0), some (.d (.int minds)), some (.r j), some (.d (.int many)), some (.r (P.length + 1)), b6, b7, b8, b9, b10, b11, none, none]) (ST P xs' (vie.map fun own => .tuple (own.map numsD)) junk') := by
    rw [sFor_eq, iRange_eq, aCons_eq, eVar_eq]
    simp only [List.getElem?_cons_succ, List.getElem?_cons_zero, getv_ok, cons1_ok, aNil_eq, cons2_ok, rangeI_ok, r1, and_self, if_true, Int.toNat_natCast, forS_ok]
    rw [app]
    exact k4
  show (m__law_views (Fs (n + 3)) _ _).fin0 _ = _
  unfold m__law_views
  rw [sSeq_eq, sParN_eq]
  simp only [eLstR_eq, lstR_ok, aCons_eq, aNil_eq, eCB_eq, eVar_eq, List.getElem?_cons_succ, List.getElem?_cons_zero, getv_ok, cons1_ok, cons2_ok, cb_ok, e1, R.of_some, toDs_nil, small, List.length_nil, Nat.zero_le, decide_true, if_true, len, parS_ok, List.length_cons, setVs, List.set_cons_succ, List.set_cons_zero, andS_nx, sSeq_eq]
  erw [bodyEq]
  simp only [andS_nx, sRet_eq, eCB_eq, aCons_eq, eVar_eq, List.getElem?_cons_succ, List.getElem?_cons_zero, getv_ok, cons1_ok, aNil_eq, cons2_ok, cb_ok, bt2, R.of_some, retS_ok, fin0_rt, fin1]
end Lw
end

section
set_option maxRecDepth 100000
set_option maxHeartbeats 4000000
namespace Lw
open PySem PySem.Spec L2 Mi
abbrev worldBody (n : Nat) : ES := sExpr (eAppend (eVar 5) (eCB bTuple (aCons (eLc [8] (.nm 8) (iRange (aCons (eVar 4) aNil)) (eTst (eOp vEq (drawE n 2) (eC (.int 0)))) (eVar 8)) aNil)))
theorem worlds_ok (n : Nat) (ns : List Int) (hn : ns.length ≤ 63) (P : Sto) (hP : pok P = true) (facts : Nat) (hf : facts ≤ 4) (a2 a3 a7 a8 : Option Val) : ∀ (l : List D) (wor : List (List Int)) (xs : List D) (a6 : Option Val), wor.length + l.length ≤ 100 → xs.length + l.length * 4 < 800000 → (∀ x ∈ wor, numsOk facts x = true) →
    ∃ (wor' : List (List Int)) (xs' : List D) (b6 : Option Val), wor'.length = wor.length + l.length ∧ (∀ x ∈ wor', numsOk facts x = true) ∧ xs'.length ≤ xs.length + l.length * 4 ∧
      forL (.nm 6) (worldBody n) l [some (.s ns), some (.r 0), a2, a3, some (.d (.int facts)), some (.r (P.length + 1)), a6, a7, a8] (ST P xs (wor.map numsD) []) =
        .ok (.nx [some (.s ns), some (.r 0), a2, a3, some (.d (.int facts)), some (.r (P.length + 1)), b6, a7, a8]) (ST P xs' (wor'.map numsD) []) := by
  intro l
  induction l with
  | nil => intro wor xs a6 _ _ h; exact ⟨wor, xs, a6, rfl, h, by simp, rfl⟩
  | cons d l ih =>
    intro wor xs a6 h1 h2 hw
    rw [List.length_cons] at h1 h2
    obtain ⟨l', xs1, s1, s2, s3⟩ := filter_drawn n ns hn 2 (by decide) 8 (by decide) [some (.s ns), some (.r 0), a2, a3, some (.d (.int facts)), some (.r (P.length + 1)), some (.d d), a7, none] rfl rfl (by simp) (List.range facts) xs (P ++ .lst (wor.map numsD) :: []) (st_okk hP xs _ rfl) (by rw [List.length_range]; omega)
    rw [List.length_range] at s2
    have rok := sub_nums facts l' s1
    obtain ⟨wor', xs', b6, k1, k2, k3, k4⟩ := ih (wor ++ [l'.map fun k : Nat => (k : Int)]) xs1 (some (.d d)) (by simp; omega) (by omega) (fun x hx => by
      rcases List.mem_append.mp hx with q | q
      · exact hw x q
      · simp at q; subst q; exact rok)
    refine ⟨wor', xs', b6, by rw [k1]; simp; omega, k2, by rw [List.length_cons]; omega, ?_⟩
    have r1 := rng facts (by omega)
    have sm : small ((List.range facts).map fun k : Nat => PyData.int (0 + (k : Nat))).length = true := small_le _ (by simp; omega)
    have bt : ∀ (ys : List D) (st : Sto), bTuple [.d (.list ys)] st = some (.d (.tuple ys), st) := fun ys st => rfl
    have e6 : ((wor.map numsD).length < 1000000) := by rw [List.length_map]; omega
    have gg : (MO.lst xs1 :: (P ++ .lst (wor.map numsD) :: []))[P.length + 1]? = some (.lst (wor.map numsD)) := st_get P xs1 _ []
    have gs : (MO.lst xs1 :: (P ++ .lst (wor.map numsD) :: [])).set (P.length + 1) (.lst (wor.map numsD ++ [PyData.tuple (l'.map fun k : Nat => PyData.int (k : Nat))])) = ST P xs1 ((wor ++ [l'.map fun k : Nat => (k : Int)]).map numsD) [] := by
      have := st_set P xs1 (wor.map numsD) (wor.map numsD ++ [PyData.tuple (l'.map fun k : Nat => PyData.int (k : Nat))]) []
      rw [this, List.map_append, List.map_cons, List.map_nil]
      simp only [numsD, List.map_map]
      rfl
    have gx : (MO.lst xs :: (P ++ .lst (wor.map numsD) :: []))[P.length + 1]? = some (.lst (wor.map numsD)) := st_get P xs _ []
    simp! only [ssE_ok, forL, worldBody, gx, r1, and_self, Int.toNat_natCast, sm, s3]
    simp! only [ssE_ok, bt, gg, e6, gs]
    exact k4
end Lw
end

section
set_option maxRecDepth 100000
set_option maxHeartbeats 4000000
namespace Lw
open PySem PySem.Spec L2 Mi
theorem c_caseF (n : Nat) (ns : List Int) (hn : ns.length ≤ 63) (bound : Nat) (hb : 1 ≤ bound) (hb2 : bound ≤ 59) (xs : List D) (P : Sto) (hP : pok P = true) (hx : xs.length < 600000) :
    ∃ (M : Mo) (w : Nat) (xs' : List D), M.facts ≤ 3 ∧ M.Ok ∧ M.n ≤ bound ∧ w < M.n ∧ xs'.length ≤ xs.length + 13000 ∧ Fs (n + 5) i__law_case [.s ns, .r 0, .d (.int bound)] (.lst xs :: P) = .ok (.d (.tuple [M.d, .int w])) (.lst xs' :: P) := by
  have okP : ∀ ys, Okk (.lst ys :: P) := fun ys => hP
  obtain ⟨d1, p1, q1, h1⟩ := c_draw (n + 1) ns 3 xs P (okP xs) hn (by decide) (by omega)
  obtain ⟨d2, p2, q2, h2⟩ := c_draw (n + 1) ns 3 (xs ++ [.int 0]) P (okP _) hn (by decide) (by simp; omega)
  obtain ⟨m, hm⟩ : ∃ m : Nat, (m : Int) = 1 + d1 := ⟨(1 + d1).toNat, by omega⟩
  obtain ⟨f, hf⟩ : ∃ f : Nat, (f : Int) = 1 + d2 := ⟨(1 + d2).toNat, by omega⟩
  obtain ⟨d3, p3, q3, h3⟩ := c_draw (n + 1) ns bound (xs ++ [.int 0] ++ [.int 0]) (P ++ [.lst []]) (st_okk hP _ [] rfl) hn (by omega) (by simp; omega)
  obtain ⟨k, hk⟩ : ∃ k : Nat, (k : Int) = 1 + d3 := ⟨(1 + d3).toNat, by omega⟩
  obtain ⟨wor, xs1, b6, w1, w2, w3, w4⟩ := worlds_ok (n + 1) ns hn P hP f (by omega) (some (.d (.int bound))) (some (.d (.int m))) none none ((List.range k).map fun k : Nat => PyData.int (0 + (k : Nat))) [] (xs ++ [.int 0] ++ [.int 0] ++ [.int 0]) none (by simp; omega) (by simp; omega) (fun x hx => by cases hx)
  rw [List.length_map, List.length_range] at w1 w3
  simp only [List.length_nil, Nat.zero_add] at w1
  have hP2 : pok (P ++ [.lst (wor.map numsD)]) = true := pok_app hP (by rfl)
  obtain ⟨vie, xs2, v1, v2, v3, v4⟩ := c_views n ns hn m (by omega) k (by omega) (P.length + 1) (wor.map numsD) (by rw [List.length_map, w1]) xs1 (P ++ [.lst (wor.map numsD)]) hP2 (st_get P xs1 _ []) (by simp at w3; omega)
  obtain ⟨d4, p4, q4, h4⟩ := c_draw (n + 1) ns k xs2 (P ++ [.lst (wor.map numsD)]) (st_okk hP xs2 _ rfl) hn (by omega) (by simp at w3; omega)
  obtain ⟨w, hw⟩ : ∃ w : Nat, (w : Int) = d4 := ⟨d4.toNat, by omega⟩
  refine ⟨⟨m, f, wor, vie⟩, w, xs2 ++ [.int 0], by show f ≤ 3; omega, ⟨by show 1 ≤ m; omega, by show m ≤ 3; omega, by show 1 ≤ f; omega, by show f ≤ 4; omega, by show 1 ≤ wor.length; omega, by show wor.length ≤ 120; omega, w2, v1, fun own ho => by rw [(v2 own ho).1]; exact w1.symm, fun own ho x hx => by show numsOk wor.length x = true; rw [w1]; exact (v2 own ho).2 x hx⟩, by show wor.length ≤ bound; omega, by show w < wor.length; omega, by simp at w3 ⊢; omega, ?_⟩
  rw [e__law_case]
  have r1 := rng k (by omega)
  have len : (MO.lst (xs ++ [.int 0] ++ [.int 0]) :: P).length = P.length + 1 := rfl
  have app : (MO.lst (xs ++ [.int 0] ++ [.int 0]) :: P) ++ [.lst []] = .lst (xs ++ [.int 0] ++ [.int 0]) :: (P ++ [.lst []]) := rfl
  have bt2 : bTuple [.r (P.length + 1)] (ST P xs1 (wor.map numsD) []) = some (.d (.tuple (wor.map numsD)), ST P xs1 (wor.map numsD) []) := by
    simp only [bTuple, sqOf, lsOf, st_get, Option.map_some]
  have ln2 : bLen [.r (P.length + 1)] (.lst xs2 :: (P ++ [.lst (wor.map numsD)])) = some (.d (.int k), .lst xs2 :: (P ++ [.lst (wor.map numsD)])) := by
    have := st_get P xs2 (wor.map numsD) []
    simp only [bLen, lenOf, sqOf, lsOf, show (MO.lst xs2 :: (P ++ [.lst (wor.map numsD)]))[P.length + 1]? = some (.lst (wor.map numsD)) from this, Option.map_some, List.length_map, w1]
  have fin1 : ∀ x : D, fin (P.length + 1) (.d x) (.lst (xs2 ++ [.int 0]) :: (P ++ [.lst (wor.map numsD)])) = .ok (.d x) (.lst (xs2 ++ [.int 0]) :: P) := fun x => fin_app (.lst (xs2 ++ [PyData.int 0]) :: P) [.lst (wor.map numsD)] (okP (xs2 ++ [PyData.int 0])) x
  have vA : ∀ (a b : Int) (st : Sto), vAdd (.d (.int a)) (.d (.int b)) st = some (.d (.int (a + b)), st) := fun _ _ _ => rfl
  have s : small 0 = true ∧ small 2 = true ∧ small 4 = true := ⟨rfl, rfl, rfl⟩
  have w4' := w4
  simp only [worldBody, drawE, List.map_nil] at w4'
  simp! only [ssE_ok, m__law_case, h1, vA, h2, ← hm, ← hf, setVs, toDs, s, len, app, h3, ← hk, r1, and_self, Int.toNat_natCast, w4', bt2]
  simp! only [ssE_ok, v4, toDs, s, ln2, h4, ← hw, fin1]
  rfl
theorem c_case (n : Nat) (ns : List Int) (hn : ns.length ≤ 63) (bound : Nat) (hb : 1 ≤ bound) (hb2 : bound ≤ 59) (xs : List D) (P : Sto) (hP : pok P = true) (hx : xs.length < 600000) :
    ∃ (M : Mo) (w : Nat) (xs' : List D), M.Ok ∧ M.n ≤ bound ∧ w < M.n ∧ xs'.length ≤ xs.length + 13000 ∧ Fs (n + 5) i__law_case [.s ns, .r 0, .d (.int bound)] (.lst xs :: P) = .ok (.d (.tuple [M.d, .int w])) (.lst xs' :: P) := by
  obtain ⟨M, w, xs', _, h⟩ := c_caseF n ns hn bound hb hb2 xs P hP hx
  exact ⟨M, w, xs', h⟩
end Lw
end

section
set_option maxRecDepth 100000
set_option maxHeartbeats 1000000
namespace Lw
open PySem PySem.Spec L2 Mi
abbrev bd_law_0 (F : Nat → FN) : ES := (sSeq (sSet 5 (eCl 3 (F 16) (aCons (eVar 0) (aCons (eVar 1) (aCons (eCB bLenS (aCons (eVar 3) aNil)) aNil))))) (sSeq (sSet 6 (eCl 3 (F 17) (aCons (eVar 0) (aCons (eVar 1) (aCons (eLst (aCons (eC (.str "0")) (aCons (eC (.str "1")) (aCons (eC (.str "2")) (aCons (eC (.str "5")) (aCons (eC (.str " ")) (aCons (eC (.str ",")) (aCons (eC (.str "|")) (aCons (eC (.str "-")) (aCons (eC (.str "")) (aCons (eC (.str "x")) (aCons (eC (.str ", ")) (aCons (eC (.str " | ")) (aCons (eC (.str "- ")) (aCons (eC (.str "00")) aNil))))))))))))))) aNil))))) (sSeq (sSet 7 (eOp vAdd (eOp vAdd (eSlT (eVar 3) oNone (oSome (eVar 5))) (eVar 6)) (eSlT (eVar 3) (oSome (eOp vAdd (eVar 5) (eCl 3 (F 16) (aCons (eVar 0) (aCons (eVar 1) (aCons (eC (.int 2)) aNil)))))) oNone))) (sSeq (sSet 8 (eCl 1 (F 25) (aCons (eVar 7) aNil))) (sIf (eTst (eOp vNe (eCl 1 (F 21) (aCons (eVar 7) aNil)) (eIf (eTst (eOp vNotN (eVar 8) (eC .none))) (eVar 8) (eTup (aCons (eC (.str "refused")) (aCons (eC (.int 10)) aNil)))))) (sRet (eC (.bool false))) sNx)))))
abbrev bd_law_1 (F : Nat → FN) : ES := (sIf (eTst (eOp vNe (eCl 1 (F 21) (aCons (eVar 10) aNil)) (eTup (aCons (eC (.str "refused")) (aCons (eC (.int 10)) aNil))))) (sRet (eC (.bool false))) sNx)
/-! ### the law -/
theorem c_shown (n : Nat) (M : Mo) (hM : M.Ok) (w : Nat) (hw : w < M.n) (st : Sto) (ok : Okk st) : Fs (n + 7) i_shown_case [.d (caD M w)] st = .ok (.d (.str (caseT M w))) st := by
  have a1 := c_need_case n M hM w hw st ok
  have a2 := c_case_text (n + 3) M hM w hw st ok
  rw [e_shown_case]
  simp! only [ssE_ok, m_shown_case, a1, a2, fin_d st ok]
theorem c_pickL (n : Nat) (ns : List Int) (ds : List D) (xs : List D) (rest : Sto) (h : Okk (.lst xs :: rest)) (hn : ns.length ≤ 63) (hd : ds ≠ []) (hx : xs.length < 1000000) : ∃ v ∈ ds,
    Fs (n + 4) i__law_pick [.s ns, .r 0, .d (.list ds)] (.lst xs :: rest) = .ok (.d v) (.lst (xs ++ [.int 0]) :: rest) := by
  rw [e__law_pick]
  have hl : 0 < ds.length := List.length_pos_iff.mpr hd
  obtain ⟨v, h1, h2, hv⟩ := c_draw n ns (ds.length : Nat) xs rest h hn (by omega) hx
  have h' : Okk (.lst (xs ++ [.int 0]) :: rest) := h
  have hv2 : v.toNat < ds.length := by omega
  refine ⟨ds[v.toNat], List.getElem_mem _, ?_⟩
  have e := fin_d (.lst (xs ++ [.int 0]) :: rest) h' (ds[v.toNat])
  have a1 : atI ds v = some ds[v.toNat] := by
    have := atI_nat (xs := ds) (j := v.toNat) (v := ds[v.toNat]) (List.getElem?_eq_getElem hv2)
    rw [show ((v.toNat : Nat) : Int) = v by omega] at this
    exact this
  simp [m__law_pick, bLen, lenOf, sqOf, lsOf, hv, vIx, a1]
  simpa using e
def signs : List Str := ["0", "1", "2", "5", " ", ",", "|", "-", "", "x", ", ", " | ", "- ", "00"]
theorem signs_le : ∀ s ∈ signs, s.length ≤ 3 := by
  have : (signs.all fun s => decide (s.length ≤ 3)) = true := by decide +kernel
  exact fun s hs => of_decide_eq_true (List.all_eq_true.mp this s hs)
theorem cutL_len (x : Str) (k : Nat) : (cutS x none (some (k : Int))).length ≤ k := by
  unfold cutS
  rw [HT.sIx_nat]
  simp only [Str.length, List.size_toArray, List.length_take]
  show min (min k x.cps.size - HT.sIx x.cps.size 0 none) _ ≤ k
  omega
theorem cutR_len (x : Str) (k : Nat) : (cutS x (some (k : Int)) none).length ≤ x.length - k := by
  unfold cutS
  rw [HT.sIx_nat]
  simp only [Str.length, List.size_toArray, List.length_take, List.length_drop, Array.length_toList]
  omega
theorem ref_pl : refD.plain = true ∧ refD.depth ≤ 1 := pl_tup fun x hx => by
  simp only [List.mem_cons, List.not_mem_nil, or_false] at hx
  rcases hx with rfl | rfl
  · exact ⟨rfl, Nat.le_refl _⟩
  · exact pl_int _
theorem spoil (n : Nat) (ns : List Int) (hn : ns.length ≤ 63) (T : Str) (h1 : 1 ≤ T.length) (h2 : T.length ≤ 522) (a2 a4 a5 a6 a7 a8 a9 a10 a11 a12 a13 : Option Val) (xs : List D) (hx : xs.length < 900000) : ∃ b5 b6 b7 b8 xs', xs'.length ≤ xs.length + 3 ∧
    bd_law_0 (Fs (n + 24)) [some (.s ns), some (.r 0), a2, some (.d (.str T)), a4, a5, a6, a7, a8, a9, a10, a11, a12, a13] [.lst xs] = .ok (.nx [some (.s ns), some (.r 0), a2, some (.d (.str T)), a4, b5, b6, b7, b8, a9, a10, a11, a12, a13]) [.lst xs'] := by
  obtain ⟨d1, p1, q1, r1⟩ := c_draw (n + 21) ns (T.length : Nat) xs [] rfl hn (by omega) (by omega)
  obtain ⟨at', rfl⟩ : ∃ k : Nat, d1 = k := ⟨d1.toNat, by omega⟩
  obtain ⟨v, hv, r2⟩ := c_pickL (n + 20) ns (signs.map PyData.str) (xs ++ [.int 0]) [] rfl hn (by simp [signs]) (by simp; omega)
  obtain ⟨s, hs, rfl⟩ := List.mem_map.mp hv
  have s3 := signs_le s hs
  obtain ⟨d3, p3, q3, r3⟩ := c_draw (n + 21) ns 2 (xs ++ [.int 0] ++ [.int 0]) [] rfl hn (by decide) (by simp; omega)
  obtain ⟨c, rfl⟩ : ∃ k : Nat, d3 = k := ⟨d3.toNat, by omega⟩
  obtain ⟨ys, hys⟩ : ∃ ys, ys = xs ++ [PyData.int 0] ++ [.int 0] ++ [.int 0] := ⟨_, rfl⟩
  have yl : ys.length = xs.length + 3 := by rw [hys]; simp
  rw [← hys] at r3
  have cl := cutL_len T at'
  have cr := cutR_len T (at' + c)
  obtain ⟨A, hA⟩ : ∃ A, A = cutS T none (some (at' : Int)) := ⟨_, rfl⟩
  obtain ⟨B, hB⟩ : ∃ B, B = cutS T (some ((at' + c : Nat) : Int)) none := ⟨_, rfl⟩
  rw [← hA] at cl
  rw [← hB] at cr
  have sl1 : ∀ st : Sto, vSlT (.d (.str T)) none (some (at' : Int)) st = some (.d (.str A), st) := fun st => by rw [hA]; exact if_pos (small_le _ (by omega))
  have sl2 : ∀ st : Sto, vSlT (.d (.str T)) (some ((at' : Int) + (c : Int))) none st = some (.d (.str B), st) := fun st => by rw [hB]; exact if_pos (small_le _ (by omega))
  have ad : ∀ st : Sto, vAdd (.d (.int (at' : Int))) (.d (.int (c : Int))) st = some (.d (.int ((at' : Int) + (c : Int))), st) := fun _ => rfl
  have a1 : ∀ st : Sto, vAdd (.d (.str A)) (.d (.str s)) st = some (.d (.str (A ++ s)), st) := fun st => if_pos (small_le _ (by omega))
  have a2' : ∀ st : Sto, vAdd (.d (.str (A ++ s))) (.d (.str B)) st = some (.d (.str (A ++ s ++ B)), st) := fun st => if_pos (small_le _ (by rw [Str.length_append]; omega))
  obtain ⟨S, hS⟩ : ∃ S, S = A ++ s ++ B := ⟨_, rfl⟩
  have Sl : S.length ≤ 540 := by rw [hS, Str.length_append, Str.length_append]; omega
  rw [← hS] at a2'
  have bl : ∀ st : Sto, bLenS [.d (.str T)] st = some (.d (.int (T.length : Nat)), st) := fun st => if_pos (small_le _ (by omega))
  have r1' : Fs (n + 24) i__law_draw [.s ns, .r 0, .d (.int (T.length : Nat))] [.lst xs] = .ok (.d (.int at')) [.lst (xs ++ [.int 0])] := r1
  have r2' : Fs (n + 24) i__law_pick [.s ns, .r 0, .d (.list [.str "0", .str "1", .str "2", .str "5", .str " ", .str ",", .str "|", .str "-", .str "", .str "x", .str ", ", .str " | ", .str "- ", .str "00"])] [.lst (xs ++ [.int 0])] = .ok (.d (.str s)) [.lst (xs ++ [.int 0] ++ [.int 0])] := r2
  have r3' : Fs (n + 24) i__law_draw [.s ns, .r 0, .d (.int 2)] [.lst (xs ++ [.int 0] ++ [.int 0])] = .ok (.d (.int c)) [.lst ys] := r3
  have pr : Fs (n + 24) i__law_parse [.d (.str S)] [.lst ys] = .ok (.d (lawD S)) [.lst ys] := c_law_parse (n + 18) S Sl _ rfl
  have s14 : small 14 = true := rfl
  have sm2 : small 2 = true := rfl
  refine ⟨some (.d (.int at')), some (.d (.str s)), some (.d (.str S)), some (.d (lawD S)), ys, by omega, ?_⟩
  by_cases G : ∃ M w, Good S M w
  · obtain ⟨M, w, G⟩ := G
    have ak : Fs (n + 24) i__law_ask [.d (.str S)] [.lst ys] = .ok (.d (caD M w)) [.lst ys] := c_ask_good (n + 17) (by omega) G.1 G.2.1 G.2.2.2 _ rfl
    rw [law_good G] at pr ⊢
    have nn : vNotN (.d (caD M w)) (.d .none) [.lst ys] = some (.d (.bool true), [.lst ys]) := rfl
    have ne := ne_pl (pl_ca M w) (by decide) [.lst ys]
    simp! only [ssE_ok, bd_law_0, bl, r1', toDs, s14, r2', eSlT_eq, slT1_ok, slT2_ok, slT3_ok, sl1, a1, ad, r3', sl2, a2', pr, ak, nn, ne]
  · have G' : ∀ M w, ¬ Good S M w := fun M w h => G ⟨M, w, h⟩
    have ak : Fs (n + 24) i__law_ask [.d (.str S)] [.lst ys] = .ok (.d refD) [.lst ys] := c_ask_bad (n + 17) Sl G' _ rfl
    rw [law_bad Sl G'] at pr ⊢
    have nn : vNotN (.d .none) (.d .none) [.lst ys] = some (.d (.bool false), [.lst ys]) := rfl
    have ne := ne_pl ref_pl (by decide) [.lst ys]
    have rd : PyData.tuple [.str "refused", .int 10] = refD := rfl
    simp! only [ssE_ok, bd_law_0, bl, r1', toDs, s14, sm2, r2', eSlT_eq, slT1_ok, slT2_ok, slT3_ok, sl1, a1, ad, r3', sl2, a2', pr, ak, nn, rd, ne]
theorem forL_nx {tg : Tg} {b : ES} {x : D} {l : List D} {env env1 env' : Ev} {st st' : Sto} (h1 : tg.put x env = some env1) (h2 : b env1 st = .ok (.nx env') st') : forL tg b (x :: l) env st = forL tg b l env' st' := by
  simp only [forL, h1, h2, andS_nx]
theorem spoils (n : Nat) (ns : List Int) (hn : ns.length ≤ 63) (T : Str) (h1 : 1 ≤ T.length) (h2 : T.length ≤ 522) (a2 a9 a10 a11 a12 a13 : Option Val) : ∀ (l : List D) (a4 a5 a6 a7 a8 : Option Val) (xs : List D), xs.length + 3 * l.length < 900000 → ∃ b4 b5 b6 b7 b8 xs', xs'.length ≤ xs.length + 3 * l.length ∧
    forL (.nm 4) (bd_law_0 (Fs (n + 24))) l [some (.s ns), some (.r 0), a2, some (.d (.str T)), a4, a5, a6, a7, a8, a9, a10, a11, a12, a13] [.lst xs] = .ok (.nx [some (.s ns), some (.r 0), a2, some (.d (.str T)), b4, b5, b6, b7, b8, a9, a10, a11, a12, a13]) [.lst xs'] := by
  intro l
  induction l with
  | nil => intro a4 a5 a6 a7 a8 xs hx; exact ⟨a4, a5, a6, a7, a8, xs, by omega, rfl⟩
  | cons x l ih =>
    intro a4 a5 a6 a7 a8 xs hx
    rw [List.length_cons] at hx ⊢
    obtain ⟨b5, b6, b7, b8, xs', hl, e⟩ := spoil n ns hn T h1 h2 a2 (some (.d x)) a5 a6 a7 a8 a9 a10 a11 a12 a13 xs (by omega)
    obtain ⟨c4, c5, c6, c7, c8, xs2, hl2, e2⟩ := ih (some (.d x)) b5 b6 b7 b8 xs' (by omega)
    exact ⟨c4, c5, c6, c7, c8, xs2, by omega, (forL_nx rfl e).trans e2⟩
theorem odds (n : Nat) (st : Sto) (a0 a1 a2 a3 a4 a5 a6 a7 a8 a9 a11 a12 a13 : Option Val) : ∀ (l : List D), (∀ x ∈ l, Fs (n + 24) i__law_ask [.d x] st = .ok (.d refD) st) → ∀ a10, ∃ b10,
    forL (.nm 10) (bd_law_1 (Fs (n + 24))) l [a0, a1, a2, a3, a4, a5, a6, a7, a8, a9, a10, a11, a12, a13] st = .ok (.nx [a0, a1, a2, a3, a4, a5, a6, a7, a8, a9, b10, a11, a12, a13]) st := by
  intro l
  induction l with
  | nil => intro _ a10; exact ⟨a10, rfl⟩
  | cons x l ih =>
    intro h a10
    obtain ⟨b10, e⟩ := ih (fun y hy => h y (List.mem_cons_of_mem _ hy)) (some (.d x))
    have hx := h x List.mem_cons_self
    have ne := ne_pl ref_pl (by decide) st
    have rd : PyData.tuple [.str "refused", .int 10] = refD := rfl
    have sm2 : small 2 = true := rfl
    refine ⟨b10, (forL_nx (env' := [a0, a1, a2, a3, a4, a5, a6, a7, a8, a9, some (.d x), a11, a12, a13]) rfl ?_).trans e⟩
    simp! only [ssE_ok, bd_law_1, hx, toDs, sm2, rd, ne]
/-! the wide case -/
def wideM (k : Nat) : Mo := ⟨1, 1, List.replicate k [0], [(List.range k).map fun j : Nat => [(j : Int)]]⟩
theorem wideM_n (k : Nat) : (wideM k).n = k := by show (List.replicate k [(0 : Int)]).length = k; simp
theorem nums1 {k : Int} {x : Int} (h0 : 0 ≤ x) (h : x < k) : numsOk k [x] = true := by
  unfold numsOk
  have a : decide (0 ≤ x) = true := decide_eq_true h0
  have b : decide (x ≤ k - 1) = true := decide_eq_true (by omega)
  have c : inR k x = true := by
    show (decide (0 ≤ x) && decide (x ≤ k - 1)) = true
    rw [a, b]; rfl
  simp [c]
theorem wide_ok {k : Nat} (h1 : 1 ≤ k) (h2 : k ≤ 120) : (wideM k).Ok := by
  have e := wideM_n k
  refine ⟨show 1 ≤ 1 by decide, show 1 ≤ 3 by decide, show 1 ≤ 1 by decide, show 1 ≤ 4 by decide, by omega, by omega, fun x hx => ?_, rfl, fun own ho => ?_, fun own ho xs hx => ?_⟩
  · rw [List.eq_of_mem_replicate hx]; exact nums1 (k := 1) (by decide) (by decide)
  · have ho : own ∈ [(List.range k).map fun j : Nat => [(j : Int)]] := ho
    rw [List.mem_singleton.mp ho, e]; simp
  · have ho : own ∈ [(List.range k).map fun j : Nat => [(j : Int)]] := ho
    rw [List.mem_singleton.mp ho] at hx
    obtain ⟨j, hj, rfl⟩ := List.mem_map.mp hx
    have := List.mem_range.mp hj
    rw [e]
    exact nums1 (by omega) (by omega)
theorem numT_le1 {xs : List Int} (h : xs.length ≤ 1) (hx : ∀ x ∈ xs, 0 ≤ x ∧ x < 1000) : (numT xs).length ≤ 4 := by
  unfold numT
  split
  · decide
  · have j := join_len " " 3 (xs.map iT) (fun y hy => by
      obtain ⟨x, hx2, rfl⟩ := List.mem_map.mp hy
      exact iT_len (hx x hx2).1 (hx x hx2).2)
    have e : (" " : Str).length = 1 := rfl
    rw [e, List.length_map] at j
    omega
theorem wide_len {k : Nat} (h1 : 1 ≤ k) (h2 : k ≤ 120) : (caseT (wideM k) (k - 1 : Nat)).length ≤ 400000 := by
  have e3 : (" | " : Str).length = 3 := rfl
  have e2 : (", " : Str).length = 2 := rfl
  have r1 : (rowT (List.replicate k [(0 : Int)])).length ≤ 720 := by
    have j := join_len ", " 4 ((List.replicate k [(0 : Int)]).map numT) (fun y hy => by
      obtain ⟨x, hx, rfl⟩ := List.mem_map.mp hy
      rw [List.eq_of_mem_replicate hx]
      exact numT_le1 (by simp) (by simp))
    rw [e2, List.length_map, List.length_replicate] at j
    unfold rowT
    omega
  have r2 : (rowT ((List.range k).map fun j : Nat => [(j : Int)])).length ≤ 720 := by
    have j := join_len ", " 4 (((List.range k).map fun j : Nat => [(j : Int)]).map numT) (fun y hy => by
      obtain ⟨x, hx, rfl⟩ := List.mem_map.mp hy
      obtain ⟨j, hj, rfl⟩ := List.mem_map.mp hx
      have := List.mem_range.mp hj
      exact numT_le1 (by simp) (fun x hx => by rw [List.mem_singleton.mp hx]; omega))
    rw [e2, List.length_map, List.length_map, List.length_range] at j
    unfold rowT
    omega
  have hh : (headT (wideM k)).length ≤ 720 := by
    have : headT (wideM k) = iT 1 ++ (" " : Str) ++ iT 1 := rfl
    rw [this]; decide +kernel
  have j := join_len " | " 720 [headT (wideM k), rowT (List.replicate k [(0 : Int)]), rowT ((List.range k).map fun j : Nat => [(j : Int)]), iT ((k - 1 : Nat) : Int)] (fun y hy => by
    simp only [List.mem_cons, List.not_mem_nil, or_false] at hy
    rcases hy with rfl | rfl | rfl | rfl
    · exact hh
    · exact r1
    · exact r2
    · have := iT_len (i := ((k - 1 : Nat) : Int)) (by omega) (by omega)
      omega)
  rw [e3] at j
  show (Txt.join " | " [headT (wideM k), rowT (List.replicate k [(0 : Int)]), rowT ((List.range k).map fun j : Nat => [(j : Int)]), iT ((k - 1 : Nat) : Int)]).length ≤ 400000
  have : [headT (wideM k), rowT (List.replicate k [(0 : Int)]), rowT ((List.range k).map fun j : Nat => [(j : Int)]), iT ((k - 1 : Nat) : Int)].length = 4 := rfl
  omega
/-! a sign ahead, or behind -/
theorem join_end (sep : Str) (q : Str) : ∀ ps : List Str, ∃ pre, (Txt.join sep (ps ++ [q])).cps.toList = pre ++ q.cps.toList
  | [] => ⟨[], by
    have : Txt.join sep ([] ++ [q]) = q := PySem.StrLaws.glued_eq_join sep [q]
    rw [this]; rfl⟩
  | [p] => by
    have : Txt.join sep ([p] ++ [q]) = p ++ sep ++ q := PySem.StrLaws.glued_eq_join sep [p, q]
    exact ⟨p.cps.toList ++ sep.cps.toList, by rw [this]; simp only [Str.cps_append, Array.toList_append]⟩
  | p :: p2 :: ps => by
    obtain ⟨pre, e⟩ := join_end sep q (p2 :: ps)
    have e1 : Txt.join sep ((p2 :: ps) ++ [q]) = Str.join sep ((p2 :: ps) ++ [q]) := PySem.StrLaws.glued_eq_join sep _
    have e2 : Txt.join sep ((p :: p2 :: ps) ++ [q]) = Str.join sep (p :: p2 :: (ps ++ [q])) := PySem.StrLaws.glued_eq_join sep _
    rw [e1] at e
    refine ⟨p.cps.toList ++ (sep.cps.toList ++ pre), ?_⟩
    rw [e2, jn_cons, show p2 :: (ps ++ [q]) = (p2 :: ps) ++ [q] from rfl, e]
    simp only [List.append_assoc]
theorem case_end {M : Mo} {w : Nat} (hw : w < 1000) : ∃ pre c, (caseT M w).cps.toList = pre ++ [c] ∧ c ∈ digs := by
  obtain ⟨pre, e⟩ := join_end " | " (iT w) (headT M :: rowT M.wor :: M.vie.map rowT)
  have hl := iT_ge (x := (w : Int)) (by omega) (by omega)
  rcases List.eq_nil_or_concat (iT (w : Int)).cps.toList with z | ⟨l, c, z⟩
  · have : (iT (w : Int)).cps.toList.length = (iT (w : Int)).length := cps_len _
    rw [z] at this
    simp at this; omega
  · have hc : c ∈ (iT (w : Int)).cps.toList := by rw [z]; simp
    refine ⟨pre ++ l, c, ?_, iT_dig hw c hc⟩
    have : (caseT M w).cps.toList = pre ++ (iT (w : Int)).cps.toList := e
    rw [this, z]; simp
theorem case_beg {M : Mo} {w : Nat} (hm : M.minds < 1000) : ∃ c post, (caseT M w).cps.toList = c :: post ∧ c ∈ digs := by
  have hl := iT_ge (x := (M.minds : Int)) (by omega) (by omega)
  have e : (caseT M w).cps.toList = (headT M).cps.toList ++ ((" | " : Str).cps.toList ++ (Str.join " | " (rowT M.wor :: (M.vie.map rowT ++ [iT w]))).cps.toList) := by
    have : caseT M w = Str.join " | " (headT M :: rowT M.wor :: (M.vie.map rowT ++ [iT w])) := PySem.StrLaws.glued_eq_join " | " _
    rw [this, jn_cons]
  have eh : (headT M).cps.toList = (iT M.minds).cps.toList ++ ((" " : Str).cps.toList ++ (iT M.facts).cps.toList) := by
    unfold headT
    simp only [Str.cps_append, Array.toList_append, List.append_assoc]
  cases z : (iT (M.minds : Int)).cps.toList with
  | nil =>
    have : (iT (M.minds : Int)).cps.toList.length = (iT (M.minds : Int)).length := cps_len _
    rw [z] at this
    simp at this; omega
  | cons c l =>
    have hc : c ∈ (iT (M.minds : Int)).cps.toList := by rw [z]; simp
    rw [e, eh, z]
    exact ⟨c, _, rfl, iT_dig hm c hc⟩
theorem end_no {T : Str} {p : List Nat} (h : T.cps.toList = p ++ [32]) : (match rdG nP T with | some g => isC g | none => false) = false := by
  split
  · rename_i g hg
    cases c : isC g with
    | false => rfl
    | true =>
      have I := isC_mo c
      have e := rd_is rdr_P hg c
      have n2 := I.n2
      have w := I.w
      obtain ⟨pre, d, e2, hd⟩ := case_end (M := toMo g) (w := g.last.getD 0) (by omega)
      rw [← e, h] at e2
      have := List.append_inj_right' e2 rfl
      simp only [List.cons.injEq, and_true] at this
      rw [← this] at hd
      exact absurd hd (by decide)
  · rfl
theorem beg_no {T : Str} {p : List Nat} (h : T.cps.toList = 32 :: p) : (match rdG nP T with | some g => isC g | none => false) = false := by
  split
  · rename_i g hg
    cases c : isC g with
    | false => rfl
    | true =>
      have I := isC_mo c
      have e := rd_is rdr_P hg c
      have m3 := I.m
      obtain ⟨d, post, e2, hd⟩ := case_beg (M := toMo g) (w := g.last.getD 0) (by omega)
      rw [← e, h] at e2
      have := (List.cons.inj e2).1
      rw [← this] at hd
      exact absurd hd (by decide)
  · rfl
def cons31 : List Str := ["", "1 1", "1 1 | - | 0", "1 1 | - | 0 | ", "1 1 | - | 0 | 0 | 0", "1 1 | - | 1 | 0"]
theorem cons_no : ∀ T ∈ cons31, T.length ≤ 400000 ∧ (match rdG nP T with | some g => isC g | none => false) = false := by
  have : (cons31.all fun T => decide (T.length ≤ 400000) && !(match rdG nP T with | some g => isC g | none => false)) = true := by decide +kernel
  intro T hT
  have q := List.all_eq_true.mp this T hT
  rw [Bool.and_eq_true, decide_eq_true_eq, Bool.not_eq_true'] at q
  exact q
theorem one_chk : ("1 1 | - | 0 | 0" : Str) = caseT ⟨1, 1, [[]], [[[0]]]⟩ (0 : Nat) := by decide +kernel
theorem wNe (a b : Str) (st : Sto) : vNe (.d (.str a)) (.d (.str b)) st = some (.d (.bool (!(a == b))), st) := by simp only [vNe, datOf, fits_str, if_true, eqv_str]
theorem law_true (ns : List Int) (hn : ns.length ≤ 63) (n : Nat) : ∃ st, Fs (n + 25) i_law [.s ns] [] = .ok (.d (.bool true)) st := by
  obtain ⟨M, w, xs1, hM, nM, hw, x1, hc⟩ := c_case (n + 19) ns hn 6 (by decide) (by decide) [] [] rfl (by decide)
  simp only [List.length_nil] at x1
  have hc' : Fs (n + 24) i__law_case [.s ns, .r 0, .d (.int 6)] [.lst []] = .ok (.d (caD M w)) [.lst xs1] := hc
  obtain ⟨T, hT⟩ : ∃ T, T = caseT M w := ⟨_, rfl⟩
  have t2 : T.length ≤ 522 := by rw [hT]; exact caseT_le6 hM nM hw
  have t1 : 1 ≤ T.length := by
    obtain ⟨c, post, e, _⟩ := case_beg (M := M) (w := w) (by have := hM.m3; omega)
    have := cps_len (caseT M w)
    rw [e] at this
    rw [hT, ← this]; simp
  have tx : Fs (n + 24) i__law_text [.d (caD M w)] [.lst xs1] = .ok (.d (.str T)) [.lst xs1] := by rw [hT]; exact c_law_text (n + 22) M hM w hw _ rfl
  have sh : Fs (n + 24) i_shown_case [.d (caD M w)] [.lst xs1] = .ok (.d (.str T)) [.lst xs1] := by rw [hT]; exact c_shown (n + 17) M hM w hw _ rfl
  have ak : Fs (n + 24) i__law_ask [.d (.str T)] [.lst xs1] = .ok (.d (caD M w)) [.lst xs1] := c_ask_good (n + 17) (by omega) hM hw hT _ rfl
  obtain ⟨b4, b5, b6, b7, b8, xs2, x2, lo1⟩ := spoils n ns hn T t1 t2 (some (.d (caD M w))) none none none none none ((List.range 6).map fun k : Nat => PyData.int (0 + (k : Nat))) none none none none none xs1 (by simp; omega)
  rw [List.length_map, List.length_range] at x2
  have tl : T.cps.toList ++ [32] = (T ++ (" " : Str)).cps.toList := by
    simp only [Str.cps_append, Array.toList_append]; rfl
  have tb : 32 :: T.cps.toList = ((" " : Str) ++ T).cps.toList := by
    simp only [Str.cps_append, Array.toList_append]; rfl
  have e1 : (" " : Str).length = 1 := rfl
  have en := end_no (T := T ++ (" " : Str)) tl.symm
  have bn := beg_no (T := (" " : Str) ++ T) tb.symm
  have con : ∀ x ∈ cons31, ∀ st, Okk st → Fs (n + 24) i__law_ask [.d (.str x)] st = .ok (.d refD) st := fun x hx st ok => c_ask_con (n + 17) (cons_no x hx).1 (cons_no x hx).2 st ok
  have rno : ∀ (x : D) (t : String), (∀ st, tyOf (.d x) st = some t) → kitB t "str" = some false → Fs (n + 24) i__law_ask [.d x] [.lst xs2] = .ok (.d refD) [.lst xs2] := fun x t h1 h2 => c_ask_ex (n + 17) x _ rfl (c_read_no (n + 22) x h1 h2 _ rfl)
  obtain ⟨b10, lo2⟩ := odds n [.lst xs2] (some (.s ns)) (some (.r 0)) (some (.d (caD M w))) (some (.d (.str T))) b4 b5 b6 b7 b8 (some (.d (.list [.none, .int 5, .str "", .str "1 1", .str "1 1 | - | 0", .str "1 1 | - | 0 | ", .str "1 1 | - | 0 | 0 | 0", .str (T ++ (" " : Str)), .str ((" " : Str) ++ T)]))) none none none
    [.none, .int 5, .str "", .str "1 1", .str "1 1 | - | 0", .str "1 1 | - | 0 | ", .str "1 1 | - | 0 | 0 | 0", .str (T ++ (" " : Str)), .str ((" " : Str) ++ T), .list [.str "1 1 | - | 0 | 0"]] (fun x hx => by
      simp only [List.mem_cons, List.not_mem_nil, or_false] at hx
      rcases hx with rfl | rfl | rfl | rfl | rfl | rfl | rfl | rfl | rfl | rfl
      · exact rno _ "NoneType" (fun _ => rfl) rfl
      · exact rno _ "int" (fun _ => rfl) rfl
      · exact con "" (by simp [cons31]) _ rfl
      · exact con "1 1" (by simp [cons31]) _ rfl
      · exact con "1 1 | - | 0" (by simp [cons31]) _ rfl
      · exact con "1 1 | - | 0 | " (by simp [cons31]) _ rfl
      · exact con "1 1 | - | 0 | 0 | 0" (by simp [cons31]) _ rfl
      · exact c_ask_con (n + 17) (by rw [Str.length_append]; omega) en _ rfl
      · exact c_ask_con (n + 17) (by rw [Str.length_append]; omega) bn _ rfl
      · exact rno _ "list" (fun _ => rfl) rfl) none
  obtain ⟨d, p, q, r⟩ := c_draw (n + 21) ns 9 xs2 [] rfl hn (by decide) (by omega)
  obtain ⟨xs3, h3⟩ : ∃ xs3, xs3 = xs2 ++ [PyData.int 0] := ⟨_, rfl⟩
  rw [← h3] at r
  have r' : Fs (n + 24) i__law_draw [.s ns, .r 0, .d (.int 9)] [.lst xs2] = .ok (.d (.int d)) [.lst xs3] := r
  obtain ⟨k, hk⟩ : ∃ k : Nat, (k : Int) = 98 + d := ⟨(98 + d).toNat, by omega⟩
  have k1 : 98 ≤ k := by omega
  have k2 : k ≤ 106 := by omega
  have hW := wide_ok (k := k) (by omega) (by omega)
  have wW : k - 1 < (wideM k).n := by rw [wideM_n]; omega
  obtain ⟨W, hWe⟩ : ∃ W, W = caseT (wideM k) (k - 1 : Nat) := ⟨_, rfl⟩
  have txW : Fs (n + 24) i__law_text [.d (caD (wideM k) (k - 1))] [.lst xs3] = .ok (.d (.str W)) [.lst xs3] := by rw [hWe]; exact c_law_text (n + 22) _ hW _ wW _ rfl
  have shW : Fs (n + 24) i_shown_case [.d (caD (wideM k) (k - 1))] [.lst xs3] = .ok (.d (.str W)) [.lst xs3] := by rw [hWe]; exact c_shown (n + 17) _ hW _ wW _ rfl
  have akW : Fs (n + 24) i__law_ask [.d (.str W)] [.lst xs3] = .ok (.d (caD (wideM k) (k - 1))) [.lst xs3] := c_ask_good (n + 17) (by rw [hWe]; exact wide_len (by omega) (by omega)) hW wW hWe _ rfl
  have ak6 : Fs (n + 24) i__law_ask [.d (.str "1 1 | - | 1 | 0")] [.lst xs3] = .ok (.d refD) [.lst xs3] := con _ (by simp [cons31]) _ rfl
  have ak7 : Fs (n + 24) i__law_ask [.d (.str "1 1 | - | 0 | 0")] [.lst xs3] = .ok (.d (caD ⟨1, 1, [[]], [[[0]]]⟩ 0)) [.lst xs3] := c_ask_good (n + 17) (by decide +kernel) (by
    refine ⟨by decide, by decide, by decide, by decide, by decide, by decide, by decide +kernel, rfl, by decide +kernel, by decide +kernel⟩) (by decide) one_chk _ rfl
  -- small facts
  have rm : (-(2 ^ 62) ≤ (6 : Int) ∧ (6 : Int) ≤ 1000000) := by decide
  have t6 : Int.toNat 6 = 6 := rfl
  have s0 : small 0 = true := rfl
  have s1 : small 1 = true := rfl
  have s2 : small 2 = true := rfl
  have s4 : small 4 = true := rfl
  have s9 : small 9 = true := rfl
  have neS := fun (a : Str) (st : Sto) => (wNe a a st).trans (by rw [beq_self_eq_true, Bool.not_true])
  have neC := fun (N : Mo) (k : Nat) (st : Sto) => ne_pl (pl_ca N k) (by decide) st
  have neR := fun (st : Sto) => ne_pl ref_pl (by decide) st
  have rd : PyData.tuple [.str "refused", .int 10] = refD := rfl
  have va1 : ∀ st : Sto, vAdd (.d (.str T)) (.d (.str " ")) st = some (.d (.str (T ++ (" " : Str))), st) := fun st => if_pos (small_le _ (by omega))
  have va2 : ∀ st : Sto, vAdd (.d (.str " ")) (.d (.str T)) st = some (.d (.str ((" " : Str) ++ T)), st) := fun st => if_pos (small_le _ (by omega))
  have va3 : ∀ st : Sto, vAdd (.d (.list [.none, .int 5, .str "", .str "1 1", .str "1 1 | - | 0", .str "1 1 | - | 0 | ", .str "1 1 | - | 0 | 0 | 0", .str (T ++ (" " : Str)), .str ((" " : Str) ++ T)])) (.d (.list [.list [.str "1 1 | - | 0 | 0"]])) st = some (.d (.list [.none, .int 5, .str "", .str "1 1", .str "1 1 | - | 0", .str "1 1 | - | 0 | ", .str "1 1 | - | 0 | 0 | 0", .str (T ++ (" " : Str)), .str ((" " : Str) ++ T), .list [.str "1 1 | - | 0 | 0"]]), st) := fun st => rfl
  have va4 : ∀ st : Sto, vAdd (.d (.int 98)) (.d (.int d)) st = some (.d (.int k), st) := fun st => by rw [hk]; rfl
  have vm : ∀ st : Sto, vMul (.d (.tuple [.tuple [.int 0]])) (.d (.int (k : Nat))) st = some (.d (ownD (List.replicate k [0])), st) := fun st => by
    have e : (List.replicate k [PyData.tuple [.int 0]]).flatten = (List.replicate k [(0 : Int)]).map numsD := by
      rw [List.map_replicate]
      have : ∀ k : Nat, (List.replicate k [PyData.tuple [.int 0]]).flatten = List.replicate k (numsD [0]) := fun k => by
        induction k with
        | zero => rfl
        | succ k ih => rw [List.replicate_succ, List.flatten_cons, ih, List.replicate_succ]; rfl
      exact this k
    show (if ((k : Nat) : Int) = 1 then some (Val.d (.tuple [.tuple [.int 0]]), st) else if [PyData.tuple [.int 0]] ≠ [] ∧ 2 ≤ ((k : Nat) : Int) ∧ ((k : Nat) : Int) ≤ 1000 ∧ [PyData.tuple [PyData.int 0]].length ≤ 1000 then some (.d (.tuple (List.replicate ((k : Nat) : Int).toNat [.tuple [.int 0]]).flatten), st) else none) = _
    rw [if_neg (by omega), if_pos ⟨by simp, by omega, by omega, by simp⟩, Int.toNat_natCast, e]
    rfl
  have rk : (-(2 ^ 62) ≤ ((k : Nat) : Int) ∧ ((k : Nat) : Int) ≤ 1000000) := by omega
  have smk : small ((List.range k).map fun i : Nat => PyData.int (0 + (i : Nat))).length = true := small_le _ (by simp; omega)
  have cm := compL_mp (st := [MO.lst xs3]) (tg := .nm 13) (tt := kYes) (ee := eTup (aCons (eVar 13) aNil)) (env := [some (.s ns), some (.r 0), some (.d (caD M w)), some (.d (.str T)), b4, b5, b6, b7, b8, some (.d (.list [.none, .int 5, .str "", .str "1 1", .str "1 1 | - | 0", .str "1 1 | - | 0 | ", .str "1 1 | - | 0 | 0 | 0", .str (T ++ (" " : Str)), .str ((" " : Str) ++ T)])), b10, some (.d (.int (k : Nat))), none, none]) (fun i : Nat => PyData.int (0 + (i : Nat))) (fun i : Nat => numsD [(i : Int)]) (List.range k) (fun i _ => ⟨_, rfl, rfl, by
    have z : (0 : Int) + (i : Nat) = i := by omega
    simp! only [ssE_ok, z, toDs, s1]
    rfl⟩)
  have tu : ∀ st : Sto, bTuple [.d (.list ((List.range k).map fun i : Nat => numsD [(i : Int)]))] st = some (.d (ownD ((List.range k).map fun i : Nat => [(i : Int)])), st) := fun st => by
    have : ownD ((List.range k).map fun i : Nat => [(i : Int)]) = .tuple ((List.range k).map fun i : Nat => numsD [(i : Int)]) := by
      unfold ownD
      rw [List.map_map]; rfl
    rw [this]; rfl
  have wd : PyData.tuple [.tuple [.int 1, .int 1, ownD (List.replicate k [0]), .tuple [ownD ((List.range k).map fun i : Nat => [(i : Int)])]], .int ((k : Int) - 1)] = caD (wideM k) (k - 1) := by
    have : ((k : Int) - 1) = ((k - 1 : Nat) : Int) := by omega
    rw [this]; rfl
  have eqL : ∀ st : Sto, vEq (.d (caD ⟨1, 1, [[]], [[[0]]]⟩ 0)) (.d (.tuple [.tuple [.int 1, .int 1, .tuple [.tuple []], .tuple [.tuple [.tuple [.int 0]]]], .int 0])) st = some (.d (.bool true), st) := fun st => eq_pl (pl_ca ⟨1, 1, [[]], [[[0]]]⟩ 0) (by decide) st
  have fe : ∀ (b : Bool) (Z : Sto), fin 0 (.d (.bool b)) Z = .ok (.d (.bool b)) [] := fun b Z => by unfold fin; rw [List.take_zero]; rfl
  refine ⟨[], ?_⟩
  rw [e_law (n + 24)]
  simp only [bd_law_0] at lo1
  simp only [bd_law_1] at lo2
  unfold m_law
  simp! only [ssE_ok, toDs, s0, List.nil_append, hc', tx, sh, ak, neS, neC]
  simp! only [ssE_ok, rm, and_self, t6]
  rw [lo1]
  simp! only [ssE_ok, toDs, s1, s9, va1, va2, va3]
  rw [lo2]
  simp! only [ssE_ok, r', va4, setVs]
  simp! only [ssE_ok, toDs, s1, s2, s4, vm, rk, and_self, Int.toNat_natCast, smk, cm, tu, wd]
  simp! only [ssE_ok, toDs, s2, shW, txW, akW, neS, neC, ak6, rd, neR]
  simp! only [ssE_ok, toDs, s1, s2, s4, s0, ak7, eqL, fe]
end Lw
end

section
set_option maxRecDepth 100000
set_option maxHeartbeats 0
namespace Lw
open PySem PySem.Spec PyProof.Rows L2 Mi
section
variable {cl : Nat → Addr} {P : Program} {w : World} {K : PySem.W.Frag} {h : Heap} {mg : Str → Option Value}
theorem glo_of (X : K.In h) (G : h.Ns mainGlobals mg) (c : SaysM fn chk K) (x : Str) (hx : x ∈ glos) : mg x = some (.ref (He.ga K x)) := by
  have c1 := (Bool.and_eq_true_iff.mp (Bool.and_eq_true_iff.mp c.check).1).1
  have c2 := (Bool.and_eq_true_iff.mp c1).2
  exact He.glo_ok X G (List.all_eq_true.mp c2 x hx)
theorem bl_of (X : K.In h) (G : h.Ns mainGlobals mg) (c : SaysM fn chk K) : Bl mg := blB_ok X G (Bool.and_eq_true_iff.mp (Bool.and_eq_true_iff.mp (Bool.and_eq_true_iff.mp c.check).1).1).1
theorem cs_of (X : K.In h) (G : h.Ns mainGlobals mg) (c : SaysM fn chk K) : Cs ⟨K, w, cl⟩ mg := by
  have c0 : chC K = true := (Bool.and_eq_true_iff.mp (Bool.and_eq_true_iff.mp c.check).1).2
  unfold chC at c0
  obtain ⟨c0, g1⟩ := Bool.and_eq_true_iff.mp c0
  exact ⟨gcB_ok X G c0, gcB_ok X G g1⟩
theorem k_is_whole (X : K.In h) (G : h.Ns mainGlobals mg) (c : SaysM fn chk K) : ∃ fd, FunD K "is_whole" "is_whole" (defArgs (top 21)) (defBody (top 21)) (defScope (top 21)) [] [] (He.ga K "is_whole") fd ∧ mg "is_whole" = some (.ref (He.ga K "is_whole")) ∧ Binds K fd ["thing", "low", "high"] [] := by
  obtain ⟨fd, F⟩ := c.def_ 0 rfl
  exact ⟨fd, F, glo_of X G c "is_whole" (by decide +kernel), F.bindsN fun _ _ _ _ _ _ us hl => match us, hl with | [_, _, _], _ => rfl⟩
theorem k_are_numbers (X : K.In h) (G : h.Ns mainGlobals mg) (c : SaysM fn chk K) : ∃ fd, FunD K "are_numbers" "are_numbers" (defArgs (top 22)) (defBody (top 22)) (defScope (top 22)) [] [] (He.ga K "are_numbers") fd ∧ mg "are_numbers" = some (.ref (He.ga K "are_numbers")) ∧ Binds K fd ["thing", "many"] [] := by
  obtain ⟨fd, F⟩ := c.def_ 1 rfl
  exact ⟨fd, F, glo_of X G c "are_numbers" (by decide +kernel), F.bindsN fun _ _ _ _ _ _ us hl => match us, hl with | [_, _], _ => rfl⟩
theorem k_are_views (X : K.In h) (G : h.Ns mainGlobals mg) (c : SaysM fn chk K) : ∃ fd, FunD K "are_views" "are_views" (defArgs (top 23)) (defBody (top 23)) (defScope (top 23)) [] [] (He.ga K "are_views") fd ∧ mg "are_views" = some (.ref (He.ga K "are_views")) ∧ Binds K fd ["thing", "minds", "many"] [] := by
  obtain ⟨fd, F⟩ := c.def_ 2 rfl
  exact ⟨fd, F, glo_of X G c "are_views" (by decide +kernel), F.bindsN fun _ _ _ _ _ _ us hl => match us, hl with | [_, _, _], _ => rfl⟩
theorem k_is_model (X : K.In h) (G : h.Ns mainGlobals mg) (c : SaysM fn chk K) : ∃ fd, FunD K "is_model" "is_model" (defArgs (top 24)) (defBody (top 24)) (defScope (top 24)) [] [] (He.ga K "is_model") fd ∧ mg "is_model" = some (.ref (He.ga K "is_model")) ∧ Binds K fd ["thing"] [] := by
  obtain ⟨fd, F⟩ := c.def_ 3 rfl
  exact ⟨fd, F, glo_of X G c "is_model" (by decide +kernel), F.bindsN fun _ _ _ _ _ _ us hl => match us, hl with | [_], _ => rfl⟩
theorem k_is_case (X : K.In h) (G : h.Ns mainGlobals mg) (c : SaysM fn chk K) : ∃ fd, FunD K "is_case" "is_case" (defArgs (top 25)) (defBody (top 25)) (defScope (top 25)) [] [] (He.ga K "is_case") fd ∧ mg "is_case" = some (.ref (He.ga K "is_case")) ∧ Binds K fd ["thing"] [] := by
  obtain ⟨fd, F⟩ := c.def_ 4 rfl
  exact ⟨fd, F, glo_of X G c "is_case" (by decide +kernel), F.bindsN fun _ _ _ _ _ _ us hl => match us, hl with | [_], _ => rfl⟩
theorem k_need_case (X : K.In h) (G : h.Ns mainGlobals mg) (c : SaysM fn chk K) : ∃ fd, FunD K "need_case" "need_case" (defArgs (top 26)) (defBody (top 26)) (defScope (top 26)) [] [] (He.ga K "need_case") fd ∧ mg "need_case" = some (.ref (He.ga K "need_case")) ∧ Binds K fd ["thing"] [] := by
  obtain ⟨fd, F⟩ := c.def_ 5 rfl
  exact ⟨fd, F, glo_of X G c "need_case" (by decide +kernel), F.bindsN fun _ _ _ _ _ _ us hl => match us, hl with | [_], _ => rfl⟩
theorem k_number_in (X : K.In h) (G : h.Ns mainGlobals mg) (c : SaysM fn chk K) : ∃ fd, FunD K "number_in" "number_in" (defArgs (top 29)) (defBody (top 29)) (defScope (top 29)) [] [] (He.ga K "number_in") fd ∧ mg "number_in" = some (.ref (He.ga K "number_in")) ∧ Binds K fd ["word"] [] := by
  obtain ⟨fd, F⟩ := c.def_ 6 rfl
  exact ⟨fd, F, glo_of X G c "number_in" (by decide +kernel), F.bindsN fun _ _ _ _ _ _ us hl => match us, hl with | [_], _ => rfl⟩
theorem k_numbers_text (X : K.In h) (G : h.Ns mainGlobals mg) (c : SaysM fn chk K) : ∃ fd, FunD K "numbers_text" "numbers_text" (defArgs (top 30)) (defBody (top 30)) (defScope (top 30)) [] [] (He.ga K "numbers_text") fd ∧ mg "numbers_text" = some (.ref (He.ga K "numbers_text")) ∧ Binds K fd ["some"] [] := by
  obtain ⟨fd, F⟩ := c.def_ 7 rfl
  exact ⟨fd, F, glo_of X G c "numbers_text" (by decide +kernel), F.bindsN fun _ _ _ _ _ _ us hl => match us, hl with | [_], _ => rfl⟩
theorem k_row_text (X : K.In h) (G : h.Ns mainGlobals mg) (c : SaysM fn chk K) : ∃ fd, FunD K "row_text" "row_text" (defArgs (top 31)) (defBody (top 31)) (defScope (top 31)) [] [] (He.ga K "row_text") fd ∧ mg "row_text" = some (.ref (He.ga K "row_text")) ∧ Binds K fd ["rows"] [] := by
  obtain ⟨fd, F⟩ := c.def_ 8 rfl
  exact ⟨fd, F, glo_of X G c "row_text" (by decide +kernel), F.bindsN fun _ _ _ _ _ _ us hl => match us, hl with | [_], _ => rfl⟩
theorem k_case_text (X : K.In h) (G : h.Ns mainGlobals mg) (c : SaysM fn chk K) : ∃ fd, FunD K "case_text" "case_text" (defArgs (top 32)) (defBody (top 32)) (defScope (top 32)) [] [] (He.ga K "case_text") fd ∧ mg "case_text" = some (.ref (He.ga K "case_text")) ∧ Binds K fd ["case"] [] := by
  obtain ⟨fd, F⟩ := c.def_ 9 rfl
  exact ⟨fd, F, glo_of X G c "case_text" (by decide +kernel), F.bindsN fun _ _ _ _ _ _ us hl => match us, hl with | [_], _ => rfl⟩
theorem k_shown_case (X : K.In h) (G : h.Ns mainGlobals mg) (c : SaysM fn chk K) : ∃ fd, FunD K "shown_case" "shown_case" (defArgs (top 33)) (defBody (top 33)) (defScope (top 33)) [] [] (He.ga K "shown_case") fd ∧ mg "shown_case" = some (.ref (He.ga K "shown_case")) ∧ Binds K fd ["case"] [] := by
  obtain ⟨fd, F⟩ := c.def_ 10 rfl
  exact ⟨fd, F, glo_of X G c "shown_case" (by decide +kernel), F.bindsN fun _ _ _ _ _ _ us hl => match us, hl with | [_], _ => rfl⟩
theorem k_numbers_in (X : K.In h) (G : h.Ns mainGlobals mg) (c : SaysM fn chk K) : ∃ fd, FunD K "numbers_in" "numbers_in" (defArgs (top 34)) (defBody (top 34)) (defScope (top 34)) [] [] (He.ga K "numbers_in") fd ∧ mg "numbers_in" = some (.ref (He.ga K "numbers_in")) ∧ Binds K fd ["text"] [] := by
  obtain ⟨fd, F⟩ := c.def_ 11 rfl
  exact ⟨fd, F, glo_of X G c "numbers_in" (by decide +kernel), F.bindsN fun _ _ _ _ _ _ us hl => match us, hl with | [_], _ => rfl⟩
theorem k_row_in (X : K.In h) (G : h.Ns mainGlobals mg) (c : SaysM fn chk K) : ∃ fd, FunD K "row_in" "row_in" (defArgs (top 35)) (defBody (top 35)) (defScope (top 35)) [] [] (He.ga K "row_in") fd ∧ mg "row_in" = some (.ref (He.ga K "row_in")) ∧ Binds K fd ["text"] [] := by
  obtain ⟨fd, F⟩ := c.def_ 12 rfl
  exact ⟨fd, F, glo_of X G c "row_in" (by decide +kernel), F.bindsN fun _ _ _ _ _ _ us hl => match us, hl with | [_], _ => rfl⟩
theorem k_read_case (X : K.In h) (G : h.Ns mainGlobals mg) (c : SaysM fn chk K) : ∃ fd, FunD K "read_case" "read_case" (defArgs (top 36)) (defBody (top 36)) (defScope (top 36)) [] [] (He.ga K "read_case") fd ∧ mg "read_case" = some (.ref (He.ga K "read_case")) ∧ Binds K fd ["text"] [] := by
  obtain ⟨fd, F⟩ := c.def_ 13 rfl
  exact ⟨fd, F, glo_of X G c "read_case" (by decide +kernel), F.bindsN fun _ _ _ _ _ _ us hl => match us, hl with | [_], _ => rfl⟩
theorem k__law_cell_at (X : K.In h) (G : h.Ns mainGlobals mg) (c : SaysM fn chk K) : ∃ fd, FunD K "_law_cell_at" "_law_cell_at" (defArgs (top 38)) (defBody (top 38)) (defScope (top 38)) [] [] (He.ga K "_law_cell_at") fd ∧ mg "_law_cell_at" = some (.ref (He.ga K "_law_cell_at")) ∧ Binds K fd ["script", "k"] [] := by
  obtain ⟨fd, F⟩ := c.def_ 14 rfl
  exact ⟨fd, F, glo_of X G c "_law_cell_at" (by decide +kernel), F.bindsN fun _ _ _ _ _ _ us hl => match us, hl with | [_, _], _ => rfl⟩
theorem k__law_mixed (X : K.In h) (G : h.Ns mainGlobals mg) (c : SaysM fn chk K) : ∃ fd, FunD K "_law_mixed" "_law_mixed" (defArgs (top 39)) (defBody (top 39)) (defScope (top 39)) [] [] (He.ga K "_law_mixed") fd ∧ mg "_law_mixed" = some (.ref (He.ga K "_law_mixed")) ∧ Binds K fd ["script", "k", "bound"] [] := by
  obtain ⟨fd, F⟩ := c.def_ 15 rfl
  exact ⟨fd, F, glo_of X G c "_law_mixed" (by decide +kernel), F.bindsN fun _ _ _ _ _ _ us hl => match us, hl with | [_, _, _], _ => rfl⟩
theorem k__law_draw (X : K.In h) (G : h.Ns mainGlobals mg) (c : SaysM fn chk K) : ∃ fd, FunD K "_law_draw" "_law_draw" (defArgs (top 40)) (defBody (top 40)) (defScope (top 40)) [] [] (He.ga K "_law_draw") fd ∧ mg "_law_draw" = some (.ref (He.ga K "_law_draw")) ∧ Binds K fd ["script", "town", "bound"] [] := by
  obtain ⟨fd, F⟩ := c.def_ 16 rfl
  exact ⟨fd, F, glo_of X G c "_law_draw" (by decide +kernel), F.bindsN fun _ _ _ _ _ _ us hl => match us, hl with | [_, _, _], _ => rfl⟩
theorem k__law_pick (X : K.In h) (G : h.Ns mainGlobals mg) (c : SaysM fn chk K) : ∃ fd, FunD K "_law_pick" "_law_pick" (defArgs (top 41)) (defBody (top 41)) (defScope (top 41)) [] [] (He.ga K "_law_pick") fd ∧ mg "_law_pick" = some (.ref (He.ga K "_law_pick")) ∧ Binds K fd ["script", "town", "some"] [] := by
  obtain ⟨fd, F⟩ := c.def_ 17 rfl
  exact ⟨fd, F, glo_of X G c "_law_pick" (by decide +kernel), F.bindsN fun _ _ _ _ _ _ us hl => match us, hl with | [_, _, _], _ => rfl⟩
theorem k__law_views (X : K.In h) (G : h.Ns mainGlobals mg) (c : SaysM fn chk K) : ∃ fd, FunD K "_law_views" "_law_views" (defArgs (top 42)) (defBody (top 42)) (defScope (top 42)) [] [] (He.ga K "_law_views") fd ∧ mg "_law_views" = some (.ref (He.ga K "_law_views")) ∧ Binds K fd ["script", "town", "minds", "worlds"] [] := by
  obtain ⟨fd, F⟩ := c.def_ 18 rfl
  exact ⟨fd, F, glo_of X G c "_law_views" (by decide +kernel), F.bindsN fun _ _ _ _ _ _ us hl => match us, hl with | [_, _, _, _], _ => rfl⟩
theorem k__law_case (X : K.In h) (G : h.Ns mainGlobals mg) (c : SaysM fn chk K) : ∃ fd, FunD K "_law_case" "_law_case" (defArgs (top 43)) (defBody (top 43)) (defScope (top 43)) [] [] (He.ga K "_law_case") fd ∧ mg "_law_case" = some (.ref (He.ga K "_law_case")) ∧ Binds K fd ["script", "town", "bound"] [] := by
  obtain ⟨fd, F⟩ := c.def_ 19 rfl
  exact ⟨fd, F, glo_of X G c "_law_case" (by decide +kernel), F.bindsN fun _ _ _ _ _ _ us hl => match us, hl with | [_, _, _], _ => rfl⟩
theorem k__law_which (X : K.In h) (G : h.Ns mainGlobals mg) (c : SaysM fn chk K) : ∃ fd, FunD K "_law_which" "_law_which" (defArgs (top 44)) (defBody (top 44)) (defScope (top 44)) [] [] (He.ga K "_law_which") fd ∧ mg "_law_which" = some (.ref (He.ga K "_law_which")) ∧ Binds K fd ["e"] [] := by
  obtain ⟨fd, F⟩ := c.def_ 20 rfl
  exact ⟨fd, F, glo_of X G c "_law_which" (by decide +kernel), F.bindsN fun _ _ _ _ _ _ us hl => match us, hl with | [_], _ => rfl⟩
theorem k__law_ask (X : K.In h) (G : h.Ns mainGlobals mg) (c : SaysM fn chk K) : ∃ fd, FunD K "_law_ask" "_law_ask" (defArgs (top 45)) (defBody (top 45)) (defScope (top 45)) [] [] (He.ga K "_law_ask") fd ∧ mg "_law_ask" = some (.ref (He.ga K "_law_ask")) ∧ Binds K fd ["text"] [] := by
  obtain ⟨fd, F⟩ := c.def_ 21 rfl
  exact ⟨fd, F, glo_of X G c "_law_ask" (by decide +kernel), F.bindsN fun _ _ _ _ _ _ us hl => match us, hl with | [_], _ => rfl⟩
theorem k__law_some (X : K.In h) (G : h.Ns mainGlobals mg) (c : SaysM fn chk K) : ∃ fd, FunD K "_law_some" "_law_some" (defArgs (top 46)) (defBody (top 46)) (defScope (top 46)) [] [] (He.ga K "_law_some") fd ∧ mg "_law_some" = some (.ref (He.ga K "_law_some")) ∧ Binds K fd ["numbers"] [] := by
  obtain ⟨fd, F⟩ := c.def_ 22 rfl
  exact ⟨fd, F, glo_of X G c "_law_some" (by decide +kernel), F.bindsN fun _ _ _ _ _ _ us hl => match us, hl with | [_], _ => rfl⟩
theorem k__law_text (X : K.In h) (G : h.Ns mainGlobals mg) (c : SaysM fn chk K) : ∃ fd, FunD K "_law_text" "_law_text" (defArgs (top 47)) (defBody (top 47)) (defScope (top 47)) [] [] (He.ga K "_law_text") fd ∧ mg "_law_text" = some (.ref (He.ga K "_law_text")) ∧ Binds K fd ["case"] [] := by
  obtain ⟨fd, F⟩ := c.def_ 23 rfl
  exact ⟨fd, F, glo_of X G c "_law_text" (by decide +kernel), F.bindsN fun _ _ _ _ _ _ us hl => match us, hl with | [_], _ => rfl⟩
theorem k__law_numbers (X : K.In h) (G : h.Ns mainGlobals mg) (c : SaysM fn chk K) : ∃ fd, FunD K "_law_numbers" "_law_numbers" (defArgs (top 48)) (defBody (top 48)) (defScope (top 48)) [] [] (He.ga K "_law_numbers") fd ∧ mg "_law_numbers" = some (.ref (He.ga K "_law_numbers")) ∧ Binds K fd ["text"] [] := by
  obtain ⟨fd, F⟩ := c.def_ 24 rfl
  exact ⟨fd, F, glo_of X G c "_law_numbers" (by decide +kernel), F.bindsN fun _ _ _ _ _ _ us hl => match us, hl with | [_], _ => rfl⟩
theorem k__law_parse (X : K.In h) (G : h.Ns mainGlobals mg) (c : SaysM fn chk K) : ∃ fd, FunD K "_law_parse" "_law_parse" (defArgs (top 49)) (defBody (top 49)) (defScope (top 49)) [] [] (He.ga K "_law_parse") fd ∧ mg "_law_parse" = some (.ref (He.ga K "_law_parse")) ∧ Binds K fd ["text"] [] := by
  obtain ⟨fd, F⟩ := c.def_ 25 rfl
  exact ⟨fd, F, glo_of X G c "_law_parse" (by decide +kernel), F.bindsN fun _ _ _ _ _ _ us hl => match us, hl with | [_], _ => rfl⟩
theorem k_law (X : K.In h) (G : h.Ns mainGlobals mg) (c : SaysM fn chk K) : ∃ fd, FunD K "law" "law" (defArgs (top 50)) (defBody (top 50)) (defScope (top 50)) [] [] (He.ga K "law") fd ∧ mg "law" = some (.ref (He.ga K "law")) ∧ Binds K fd ["script"] [] := by
  obtain ⟨fd, F⟩ := c.def_ 26 rfl
  exact ⟨fd, F, glo_of X G c "law" (by decide +kernel), F.bindsN fun _ _ _ _ _ _ us hl => match us, hl with | [_], _ => rfl⟩
theorem ct_of (c : SaysM fn chk K) : clA K 99 = 0 := by
  have h : chT K = true := (Bool.and_eq_true_iff.mp (Bool.and_eq_true_iff.mp c.check).2).2
  simpa [chT, Bool.and_eq_true, and_assoc] using h
theorem cx_of (c : SaysM fn chk K) : xtB K (List.range 18) = true ∧ iniB K 4 = true ∧ iniB K 14 = true := by
  have h : chX K = true := (Bool.and_eq_true_iff.mp (Bool.and_eq_true_iff.mp c.check).2).1
  unfold chX at h
  have h1 := Bool.and_eq_true_iff.mp h
  have h2 := Bool.and_eq_true_iff.mp h1.2
  exact ⟨h1.1, h2.1, h2.2⟩
theorem ini4 (X : K.In h) (c : SaysM fn chk K) (base : Heap) : InitOk (clA K) P w K mg base 4 "saying" := by
  obtain ⟨fd, F⟩ := c.def_ 27 rfl
  exact ini_of (cx_of c).2.1 F rfl ⟨rfl, rfl, rfl, by decide +kernel, rfl, by decide +kernel, by decide +kernel⟩ (by decide) (by decide) rfl rfl (fun _ => rfl) (F.bindsN fun _ _ _ _ _ _ us hl => match us, hl with | [_, _], _ => rfl)
theorem ini14 (X : K.In h) (c : SaysM fn chk K) (base : Heap) : InitOk (clA K) P w K mg base 14 "number" := by
  obtain ⟨fd, F⟩ := c.def_ 28 rfl
  exact ini_of (cx_of c).2.2 F rfl ⟨rfl, rfl, rfl, by decide +kernel, rfl, by decide +kernel, by decide +kernel⟩ (by decide) (by decide) rfl rfl (fun _ => rfl) (F.bindsN fun _ _ _ _ _ _ us hl => match us, hl with | [_, _], _ => rfl)
theorem whk (X : K.In h) (G : h.Ns mainGlobals mg) (c : SaysM fn chk K) (base : Heap) : WhOk (List.range 18) (clA K) P w K mg base 1 "_law_which" := by
  obtain ⟨fd, F, g, b⟩ := k__law_which X G c
  exact wh_of F sc__law_which g b (fun cdv A outer s H E a oe d j hj hz hf hr => b__law_which (xtB_ok X G (cx_of c).1) (bl_of X G c) cdv A outer s H E a oe d j hj hz hf hr)
theorem tb (X : K.In h) (G : h.Ns mainGlobals mg) (c : SaysM fn chk K) (base : Heap) : ∀ k, Tb (clA K) P w K mg base (k + 3) (Fs k)
  | 0 => by
    obtain ⟨fd0, F0, g0, b0⟩ := k_is_whole X G c
    obtain ⟨fd1, F1, g1, b1⟩ := k_are_numbers X G c
    obtain ⟨fd2, F2, g2, b2⟩ := k_are_views X G c
    obtain ⟨fd3, F3, g3, b3⟩ := k_is_model X G c
    obtain ⟨fd4, F4, g4, b4⟩ := k_is_case X G c
    obtain ⟨fd5, F5, g5, b5⟩ := k_need_case X G c
    obtain ⟨fd6, F6, g6, b6⟩ := k_number_in X G c
    obtain ⟨fd7, F7, g7, b7⟩ := k_numbers_text X G c
    obtain ⟨fd8, F8, g8, b8⟩ := k_row_text X G c
    obtain ⟨fd9, F9, g9, b9⟩ := k_case_text X G c
    obtain ⟨fd10, F10, g10, b10⟩ := k_shown_case X G c
    obtain ⟨fd11, F11, g11, b11⟩ := k_numbers_in X G c
    obtain ⟨fd12, F12, g12, b12⟩ := k_row_in X G c
    obtain ⟨fd13, F13, g13, b13⟩ := k_read_case X G c
    obtain ⟨fd14, F14, g14, b14⟩ := k__law_cell_at X G c
    obtain ⟨fd15, F15, g15, b15⟩ := k__law_mixed X G c
    obtain ⟨fd16, F16, g16, b16⟩ := k__law_draw X G c
    obtain ⟨fd17, F17, g17, b17⟩ := k__law_pick X G c
    obtain ⟨fd18, F18, g18, b18⟩ := k__law_views X G c
    obtain ⟨fd19, F19, g19, b19⟩ := k__law_case X G c
    obtain ⟨fd21, F21, g21, b21⟩ := k__law_ask X G c
    obtain ⟨fd22, F22, g22, b22⟩ := k__law_some X G c
    obtain ⟨fd23, F23, g23, b23⟩ := k__law_text X G c
    obtain ⟨fd24, F24, g24, b24⟩ := k__law_numbers X G c
    obtain ⟨fd25, F25, g25, b25⟩ := k__law_parse X G c
    obtain ⟨fd26, F26, g26, b26⟩ := k_law X G c
    exact ⟨xtB_ok X G (cx_of c).1, ini4 X c base, ini14 X c base, whk X G c base, fok_bad rfl g0 F0.kp b0, fok_bad rfl g1 F1.kp b1, fok_bad rfl g2 F2.kp b2, fok_bad rfl g3 F3.kp b3, fok_bad rfl g4 F4.kp b4, fok_bad rfl g5 F5.kp b5, fok_bad rfl g6 F6.kp b6, fok_bad rfl g7 F7.kp b7, fok_bad rfl g8 F8.kp b8, fok_bad rfl g9 F9.kp b9, fok_bad rfl g10 F10.kp b10, fok_bad rfl g11 F11.kp b11, fok_bad rfl g12 F12.kp b12, fok_bad rfl g13 F13.kp b13, fok_bad rfl g14 F14.kp b14, fok_bad rfl g15 F15.kp b15, fok_bad rfl g16 F16.kp b16, fok_bad rfl g17 F17.kp b17, fok_bad rfl g18 F18.kp b18, fok_bad rfl g19 F19.kp b19, fok_bad rfl g21 F21.kp b21, fok_bad rfl g22 F22.kp b22, fok_bad rfl g23 F23.kp b23, fok_bad rfl g24 F24.kp b24, fok_bad rfl g25 F25.kp b25, fok_bad rfl g26 F26.kp b26⟩
  | k + 1 => by
    have T := tb X G c base k
    have B := bl_of X G c
    have C : Cs ⟨K, w, clA K⟩ mg := cs_of X G c
    obtain ⟨fd0, F0, g0, b0⟩ := k_is_whole X G c
    obtain ⟨fd1, F1, g1, b1⟩ := k_are_numbers X G c
    obtain ⟨fd2, F2, g2, b2⟩ := k_are_views X G c
    obtain ⟨fd3, F3, g3, b3⟩ := k_is_model X G c
    obtain ⟨fd4, F4, g4, b4⟩ := k_is_case X G c
    obtain ⟨fd5, F5, g5, b5⟩ := k_need_case X G c
    obtain ⟨fd6, F6, g6, b6⟩ := k_number_in X G c
    obtain ⟨fd7, F7, g7, b7⟩ := k_numbers_text X G c
    obtain ⟨fd8, F8, g8, b8⟩ := k_row_text X G c
    obtain ⟨fd9, F9, g9, b9⟩ := k_case_text X G c
    obtain ⟨fd10, F10, g10, b10⟩ := k_shown_case X G c
    obtain ⟨fd11, F11, g11, b11⟩ := k_numbers_in X G c
    obtain ⟨fd12, F12, g12, b12⟩ := k_row_in X G c
    obtain ⟨fd13, F13, g13, b13⟩ := k_read_case X G c
    obtain ⟨fd14, F14, g14, b14⟩ := k__law_cell_at X G c
    obtain ⟨fd15, F15, g15, b15⟩ := k__law_mixed X G c
    obtain ⟨fd16, F16, g16, b16⟩ := k__law_draw X G c
    obtain ⟨fd17, F17, g17, b17⟩ := k__law_pick X G c
    obtain ⟨fd18, F18, g18, b18⟩ := k__law_views X G c
    obtain ⟨fd19, F19, g19, b19⟩ := k__law_case X G c
    obtain ⟨fd21, F21, g21, b21⟩ := k__law_ask X G c
    obtain ⟨fd22, F22, g22, b22⟩ := k__law_some X G c
    obtain ⟨fd23, F23, g23, b23⟩ := k__law_text X G c
    obtain ⟨fd24, F24, g24, b24⟩ := k__law_numbers X G c
    obtain ⟨fd25, F25, g25, b25⟩ := k__law_parse X G c
    obtain ⟨fd26, F26, g26, b26⟩ := k_law X G c
    exact ⟨xtB_ok X G (cx_of c).1, ini4 X c base, ini14 X c base, whk X G c base, fok_of F0 sc_is_whole (by decide) g0 b0 rfl rfl (fun cdv A outer s H E hr tk hp => b_is_whole T B C cdv A outer s H E hr tk hp),
      fok_of F1 sc_are_numbers (by decide) g1 b1 rfl rfl (fun cdv A outer s H E hr tk hp => b_are_numbers T B C cdv A outer s H E hr tk hp),
      fok_of F2 sc_are_views (by decide) g2 b2 rfl rfl (fun cdv A outer s H E hr tk hp => b_are_views T B C cdv A outer s H E hr tk hp),
      fok_of F3 sc_is_model (by decide) g3 b3 rfl rfl (fun cdv A outer s H E hr tk hp => b_is_model T B C cdv A outer s H E hr tk hp),
      fok_of F4 sc_is_case (by decide) g4 b4 rfl rfl (fun cdv A outer s H E hr tk hp => b_is_case T B C cdv A outer s H E hr tk hp),
      fok_of F5 sc_need_case (by decide) g5 b5 rfl rfl (fun cdv A outer s H E hr tk hp => b_need_case T B C cdv A outer s H E hr tk hp),
      fok_of F6 sc_number_in (by decide) g6 b6 rfl rfl (fun cdv A outer s H E hr tk hp => b_number_in T B C cdv A outer s H E hr tk hp),
      fok_of F7 sc_numbers_text (by decide) g7 b7 rfl rfl (fun cdv A outer s H E hr tk hp => b_numbers_text T B C cdv A outer s H E hr tk hp),
      fok_of F8 sc_row_text (by decide) g8 b8 rfl rfl (fun cdv A outer s H E hr tk hp => b_row_text T B C cdv A outer s H E hr tk hp),
      fok_of F9 sc_case_text (by decide) g9 b9 rfl rfl (fun cdv A outer s H E hr tk hp => b_case_text T B C cdv A outer s H E hr tk hp),
      fok_of F10 sc_shown_case (by decide) g10 b10 rfl rfl (fun cdv A outer s H E hr tk hp => b_shown_case T B C cdv A outer s H E hr tk hp),
      fok_of F11 sc_numbers_in (by decide) g11 b11 rfl rfl (fun cdv A outer s H E hr tk hp => b_numbers_in T B C cdv A outer s H E hr tk hp),
      fok_of F12 sc_row_in (by decide) g12 b12 rfl rfl (fun cdv A outer s H E hr tk hp => b_row_in T B C cdv A outer s H E hr tk hp),
      fok_of F13 sc_read_case (by decide) g13 b13 rfl rfl (fun cdv A outer s H E hr tk hp => b_read_case T B C cdv A outer s H E hr tk hp),
      fok_of F14 sc__law_cell_at (by decide) g14 b14 rfl rfl (fun cdv A outer s H E hr tk hp => b__law_cell_at T B C cdv A outer s H E hr tk hp),
      fok_of F15 sc__law_mixed (by decide) g15 b15 rfl rfl (fun cdv A outer s H E hr tk hp => b__law_mixed T B C cdv A outer s H E hr tk hp),
      fok_of F16 sc__law_draw (by decide) g16 b16 rfl rfl (fun cdv A outer s H E hr tk hp => b__law_draw T B C cdv A outer s H E hr tk hp),
      fok_of F17 sc__law_pick (by decide) g17 b17 rfl rfl (fun cdv A outer s H E hr tk hp => b__law_pick T B C cdv A outer s H E hr tk hp),
      fok_of F18 sc__law_views (by decide) g18 b18 rfl rfl (fun cdv A outer s H E hr tk hp => b__law_views T B C cdv A outer s H E hr tk hp),
      fok_of F19 sc__law_case (by decide) g19 b19 rfl rfl (fun cdv A outer s H E hr tk hp => b__law_case T B C cdv A outer s H E hr tk hp),
      fok_of F21 sc__law_ask (by decide) g21 b21 rfl rfl (fun cdv A outer s H E hr tk hp => b__law_ask T B C cdv A outer s H E hr tk hp),
      fok_of F22 sc__law_some (by decide) g22 b22 rfl rfl (fun cdv A outer s H E hr tk hp => b__law_some T B C cdv A outer s H E hr tk hp),
      fok_of F23 sc__law_text (by decide) g23 b23 rfl rfl (fun cdv A outer s H E hr tk hp => b__law_text T B C cdv A outer s H E hr tk hp),
      fok_of F24 sc__law_numbers (by decide) g24 b24 rfl rfl (fun cdv A outer s H E hr tk hp => b__law_numbers T B C cdv A outer s H E hr tk hp),
      fok_of F25 sc__law_parse (by decide) g25 b25 rfl rfl (fun cdv A outer s H E hr tk hp => b__law_parse T B C cdv A outer s H E hr tk hp),
      fok_of F26 sc_law (by decide) g26 b26 rfl rfl (fun cdv A outer s H E hr tk hp => b_law T B C cdv A outer s H E hr tk hp)⟩
theorem facts {f : Addr} (X : K.In h) (G : h.Ns mainGlobals mg) (hfa : mg ("law" : Str) = some (.ref f)) (c : SaysM fn chk K) :
    ∃ fd : FuncData, (∀ (s : Shared) (v : Value), BindsTo s fd ⟨[v], []⟩ [("script", v)]) ∧ ∀ base : Heap, K.In base → base.Ns mainGlobals mg → FnOk P w K mg base (L2N.CX P w) 28 f fd ["script"] (spF ⟨K, w, clA K⟩ 1 (Fs 25 i_law)) := by
  obtain ⟨fd, F, g, b⟩ := k_law X G c
  have e := hfa.symm.trans g
  cases e
  have bA := FunD.bindsA (ps := ["script"]) F fun _ _ _ _ _ _ us hl => match us, hl with | [_], _ => rfl
  refine ⟨fd, fun s v => bA s [v] rfl, fun base Xb Gb => ?_⟩
  have T : Tb (clA K) P w K mg base (24 + 3) (Fs 24) := tb X G c base 24
  refine F.ok sc_law (fun vs H Q E h => ?_) (fun cdv A outer s H vs Q E hr hh => ?_)
  · obtain ⟨G, m, st, as, rl, ra, hl, p⟩ := h
    rw [ra.length, hl]; rfl
  · exact ⟨_, b_law T (bl_of X G c) (cs_of X G c) cdv A outer s H E hr (L2N.takes_of rfl rfl rfl rfl) (passes_of rfl), fn_sound_aux (ps := ["script"]) (by decide) hh⟩
end
end Lw
open PySem PySem.W PySem.Calls PyProof.Rows
theorem PySem.Challenge.cw_mindsteps_k31_whole_case_texts_holds : PySem.Challenge.rw_mindsteps_k31_whole_case_texts.Holds := by
  w_on; o_law
  refine HandSHeadRun.head_any (r := OpenLaw.row PySem.Challenge.rw_mindsteps_k31_whole_case_texts) (q := view (OpenLaw.row PySem.Challenge.rw_mindsteps_k31_whole_case_texts).prog [50]) (H := Lw.hk) (ob := Lw.ob) (M := 6000) (loose := Lw.loose) (d := HandSHeadRun.topDef (OpenLaw.row PySem.Challenge.rw_mindsteps_k31_whole_case_texts).prog 50) (kwd := []) Lw.ob_eq
    (by kernel_rfl) (fun s => by kernel_rfl) Lw.run (by kernel_rfl) (by kernel_rfl) (by kernel_rfl) (by rfl) (by first | assumption | decide +kernel) (by decide +kernel) ⟨rfl, rfl, rfl, rfl, rfl, by decide +kernel⟩ ?hw ?hc
  case hw => w_witness2
  case hc =>
    refine Mi.walk_ofM (l := PySem.Challenge.rw_mindsteps_k31_whole_case_texts) (n := 63) (k := 28) (x := "script") (CX := fun w => L2N.CX PySem.Challenge.rw_mindsteps_k31_whole_case_texts.prog w) rfl (by decide) (by kernel_rfl) ⟨rfl, by decide, by decide⟩ ?F ?X
    case X => exact fun _ _ _ _ _ ⟨_, _, _, _, _, _, _, _, _, _, _, _, z⟩ => z
    case F =>
      intro w mg fa h Y G hmg0
      obtain ⟨K, KX, c0⟩ := Y
      have c := c0
      have hmg : mg ("law" : PySem.Str) = some (.ref fa) := by
        have e : (HandSHeadRun.topDef (OpenLaw.row PySem.Challenge.rw_mindsteps_k31_whole_case_texts).prog 50).name = ("law" : PySem.Str) := by kernel_rfl
        rw [← e]
        exact hmg0
      obtain ⟨fd, hb, hF⟩ := Lw.facts (P := (PySem.Challenge.rw_mindsteps_k31_whole_case_texts).prog) (w := w) KX G hmg c
      refine ⟨K, fd, _, KX, hb, fun H a ns hl _ hS => ?_, hF⟩
      obtain ⟨st, e⟩ := Lw.law_true ns hl 0
      refine ⟨Mi.noTbl H, [], [], [.s ns], Mi.rl_start (fun j hj => absurd (show j < Mi.clA K 99 from hj) (by rw [Lw.ct_of c]; exact Nat.not_lt_zero _)), .cons (.s (Mi.sqL_noTbl hS)) .nil, rfl, ?_⟩
      rw [e]
      intro x H' G' m' _ _ rx
      cases rx with
      | d rx => cases rx; rfl
end
